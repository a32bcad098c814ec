import PyProof.Rows.All
import Wide.All
import OpenK.AllK
import Wide.FinOn
import HandS.ForMost
import HandS.Codes
import HandS.Walk
import HandS.IsInst
import HandS.WideBits
import HandS.Defaults
import KE.GoesEnum
import KE.KDictZip
import KE.KDictItemsList
import HandS.ListItems
import PyProof.ReprRoads
import PyProof.ReprText
import HandS.Exc
import HandS.ExcInit
import HandS.ExcField
import HandS.ClsMeth
import KE.KExcInit
import PyProof.ExcBaseAll.ArithmeticError
import HandS.ExcOwn
import HandS.More
import PySem.Challenge.RW_flowyard_k22_compiled_yards_by_own_going
import PyProof.NoPylong
import HandS.Star
import HandS.DictComp
import HandS.DictTup
import HandS.TupMul
import HandS.OwnEq
import KE.GoesMore
import KE.KDictCopyH
import HandS.Property
import HandS.Deep
import HandS.TupSets
import HandS.NamedTupGet
namespace FY
inductive W1 where
  | no | twice | half | change | count
  deriving DecidableEq
inductive Tm where
  | inn
  | one (w : W1) (t : Tm)
  | late (b : Bool) (t : Tm)
  | byy (a b c d : Bool) (t u : Tm)
  | keep (t u : Tm)
  | thn (t u : Tm)
def Tm.nodes : Tm → Nat
  | .inn => 1
  | .one _ t => t.nodes + 1
  | .late _ t => t.nodes + 1
  | .byy _ _ _ _ t u => t.nodes + u.nodes + 1
  | .keep t u => t.nodes + u.nodes + 1
  | .thn t u => t.nodes + u.nodes + 1
theorem Tm.nodes_pos (t : Tm) : 1 ≤ t.nodes := by cases t <;> simp [Tm.nodes]
def halfL : List Bool → List Bool
  | _ :: y :: r => y :: halfL r
  | _ => []
def chgL (l : Bool) : List Bool → List Bool
  | [] => []
  | x :: r => (x != l) :: chgL x r
def cntL (l : Bool) : List Bool → List Bool
  | [] => []
  | x :: r => (x != l) :: cntL (x != l) r
def dblL : List Bool → List Bool
  | [] => []
  | x :: r => x :: x :: dblL r
def byL (a b c d : Bool) : List Bool → List Bool → List Bool
  | x :: r, y :: s => (if x then (if y then d else c) else (if y then b else a)) :: byL a b c d r s
  | _, _ => []
def keepL : List Bool → List Bool → List Bool
  | x :: r, y :: s => if y then x :: keepL r s else keepL r s
  | _, _ => []
def lateL (b : Bool) (f : List Bool) : List Bool := (b :: f).take f.length
def oneL : W1 → List Bool → List Bool
  | .no, f => f.map (!·)
  | .twice, f => dblL f
  | .half, f => halfL f
  | .change, f => chgL false f
  | .count, f => cntL false f
def flow : Tm → List Bool → List Bool
  | .inn, s => s
  | .one w t, s => oneL w (flow t s)
  | .late b t, s => lateL b (flow t s)
  | .byy a b c d t u, s => byL a b c d (flow t s) (flow u s)
  | .keep t u, s => keepL (flow t s) (flow u s)
  | .thn t u, s => flow u (flow t s)
/-! lengths -/
theorem halfL_len : ∀ f : List Bool, (halfL f).length ≤ f.length
  | [] => by simp [halfL]
  | [_] => by simp [halfL]
  | _ :: y :: r => by have := halfL_len r; simp [halfL]; omega
theorem chgL_len : ∀ (f : List Bool) (l : Bool), (chgL l f).length = f.length
  | [], _ => rfl
  | x :: r, l => by simp [chgL, chgL_len r x]
theorem cntL_len : ∀ (f : List Bool) (l : Bool), (cntL l f).length = f.length
  | [], _ => rfl
  | x :: r, l => by simp [cntL, cntL_len r]
theorem dblL_len : ∀ f : List Bool, (dblL f).length = 2 * f.length
  | [] => rfl
  | x :: r => by simp [dblL, dblL_len r]; omega
theorem byL_len (a b c d : Bool) : ∀ f g : List Bool, (byL a b c d f g).length ≤ f.length
  | [], _ => by simp [byL]
  | _ :: _, [] => by simp [byL]
  | x :: r, y :: s => by have := byL_len a b c d r s; simp [byL]; omega
theorem keepL_len : ∀ f g : List Bool, (keepL f g).length ≤ f.length
  | [], _ => by simp [keepL]
  | _ :: _, [] => by simp [keepL]
  | x :: r, y :: s => by have := keepL_len r s; cases y <;> simp [keepL] <;> omega
theorem lateL_len (b : Bool) (f : List Bool) : (lateL b f).length = f.length := by simp [lateL]
theorem oneL_len (w : W1) (f : List Bool) : (oneL w f).length ≤ 2 * f.length := by
  cases w with
  | no => simp [oneL]; omega
  | twice => simp [oneL, dblL_len]
  | half => have := halfL_len f; simp [oneL]; omega
  | change => simp [oneL, chgL_len]; omega
  | count => simp [oneL, cntL_len]; omega
theorem flow_len : ∀ (t : Tm) (s : List Bool), (flow t s).length ≤ 2 ^ (t.nodes - 1) * s.length := by
  intro t
  induction t with
  | inn => intro s; simp [flow, Tm.nodes]
  | one w t ih =>
    intro s
    have h1 := oneL_len w (flow t s)
    have h2 := ih s
    have h3 := t.nodes_pos
    have e : 2 ^ (t.nodes + 1 - 1) = 2 * 2 ^ (t.nodes - 1) := by
      rw [show t.nodes + 1 - 1 = (t.nodes - 1) + 1 by omega, Nat.pow_succ]; omega
    simp only [flow, Tm.nodes, e, Nat.mul_assoc]
    omega
  | late b t ih =>
    intro s
    have h2 := ih s
    have h3 := t.nodes_pos
    have e : 2 ^ (t.nodes + 1 - 1) = 2 * 2 ^ (t.nodes - 1) := by
      rw [show t.nodes + 1 - 1 = (t.nodes - 1) + 1 by omega, Nat.pow_succ]; omega
    simp only [flow, Tm.nodes, lateL_len, e, Nat.mul_assoc]
    omega
  | byy a b c d t u ih1 ih2 =>
    intro s
    have h1 := byL_len a b c d (flow t s) (flow u s)
    have h2 := ih1 s
    have h3 := t.nodes_pos
    have e : 2 ^ (t.nodes - 1) ≤ 2 ^ (t.nodes + u.nodes + 1 - 1) := Nat.pow_le_pow_right (by decide) (by omega)
    have e2 := Nat.mul_le_mul_right s.length e
    simp only [flow, Tm.nodes]
    omega
  | keep t u ih1 ih2 =>
    intro s
    have h1 := keepL_len (flow t s) (flow u s)
    have h2 := ih1 s
    have e : 2 ^ (t.nodes - 1) ≤ 2 ^ (t.nodes + u.nodes + 1 - 1) := Nat.pow_le_pow_right (by decide) (by omega)
    have e2 := Nat.mul_le_mul_right s.length e
    simp only [flow, Tm.nodes]
    omega
  | thn t u ih1 ih2 =>
    intro s
    have h1 := ih1 s
    have h2 := ih2 (flow t s)
    have h3 := t.nodes_pos
    have h4 := u.nodes_pos
    have e : 2 ^ (u.nodes - 1) * 2 ^ (t.nodes - 1) ≤ 2 ^ (t.nodes + u.nodes + 1 - 1) := by
      rw [← Nat.pow_add]; exact Nat.pow_le_pow_right (by decide) (by omega)
    have e1 := Nat.mul_le_mul_left (2 ^ (u.nodes - 1)) h1
    have e2 := Nat.mul_le_mul_right s.length e
    rw [← Nat.mul_assoc] at e1
    simp only [flow, Tm.nodes]
    omega
/-! beginnings -/
theorem halfL_pre : ∀ f g : List Bool, halfL f <+: halfL (f ++ g)
  | [], g => by simp [halfL]
  | [x], g => by simp [halfL]
  | x :: y :: r, g => by
    have := halfL_pre r g
    simpa [halfL, List.prefix_cons_inj] using this
theorem chgL_pre : ∀ (f g : List Bool) (l : Bool), chgL l f <+: chgL l (f ++ g)
  | [], g, l => by simp [chgL]
  | x :: r, g, l => by have := chgL_pre r g x; simpa [chgL, List.prefix_cons_inj] using this
theorem cntL_pre : ∀ (f g : List Bool) (l : Bool), cntL l f <+: cntL l (f ++ g)
  | [], g, l => by simp [cntL]
  | x :: r, g, l => by have := cntL_pre r g (x != l); simpa [cntL, List.prefix_cons_inj] using this
theorem dblL_pre : ∀ (f g : List Bool), dblL f <+: dblL (f ++ g)
  | [], g => by simp [dblL]
  | x :: r, g => by have := dblL_pre r g; simpa [dblL, List.prefix_cons_inj] using this
theorem byL_pre (a b c d : Bool) : ∀ (f g f' g' : List Bool), byL a b c d f g <+: byL a b c d (f ++ f') (g ++ g')
  | [], g, f', g' => by simp [byL]
  | x :: r, [], f', g' => by simp [byL]
  | x :: r, y :: s, f', g' => by have := byL_pre a b c d r s f' g'; simpa [byL, List.prefix_cons_inj] using this
theorem keepL_pre : ∀ (f g f' g' : List Bool), keepL f g <+: keepL (f ++ f') (g ++ g')
  | [], g, f', g' => by simp [keepL]
  | x :: r, [], f', g' => by simp [keepL]
  | x :: r, y :: s, f', g' => by
    have := keepL_pre r s f' g'
    cases y <;> simpa [keepL, List.prefix_cons_inj] using this
theorem lateL_pre (b : Bool) (f g : List Bool) : lateL b f <+: lateL b (f ++ g) := by
  unfold lateL
  have h : (b :: f).take f.length = ((b :: (f ++ g)).take (f ++ g).length).take f.length := by
    rw [List.take_take, Nat.min_eq_left (by simp)]
    cases f with
    | nil => rfl
    | cons x r =>
      simp only [List.length_cons, List.take_succ_cons, List.cons_append]
      congr 1
      rw [show (x :: (r ++ g)) = (x :: r) ++ g from rfl, List.take_append_of_le_length (by simp)]
  rw [h]
  exact List.take_prefix _ _
theorem oneL_pre (w : W1) (f g : List Bool) : oneL w f <+: oneL w (f ++ g) := by
  cases w with
  | no => simp [oneL]
  | twice => exact dblL_pre f g
  | half => exact halfL_pre f g
  | change => exact chgL_pre f g false
  | count => exact cntL_pre f g false
theorem flow_pre : ∀ (t : Tm) (s g : List Bool), flow t s <+: flow t (s ++ g) := by
  intro t
  induction t with
  | inn => intro s g; simp [flow]
  | one w t ih =>
    intro s g
    obtain ⟨r, hr⟩ := ih s g
    simp only [flow, ← hr]
    exact oneL_pre w _ _
  | late b t ih =>
    intro s g
    obtain ⟨r, hr⟩ := ih s g
    simp only [flow, ← hr]
    exact lateL_pre b _ _
  | byy a b c d t u ih1 ih2 =>
    intro s g
    obtain ⟨r, hr⟩ := ih1 s g
    obtain ⟨q, hq⟩ := ih2 s g
    simp only [flow, ← hr, ← hq]
    exact byL_pre a b c d _ _ _ _
  | keep t u ih1 ih2 =>
    intro s g
    obtain ⟨r, hr⟩ := ih1 s g
    obtain ⟨q, hq⟩ := ih2 s g
    simp only [flow, ← hr, ← hq]
    exact keepL_pre _ _ _ _
  | thn t u ih1 ih2 =>
    intro s g
    obtain ⟨r, hr⟩ := ih1 s g
    simp only [flow, ← hr]
    exact ih2 _ _
theorem flow_nil : ∀ t : Tm, flow t [] = [] := by
  intro t
  have h := flow_len t []
  simpa using h
end FY

set_option Elab.async false
set_option linter.all false
set_option maxRecDepth 100000
set_option maxHeartbeats 4000000
/-! further rules: zip of two texts, extend by a tuple, text * int, calls by keywords alone -/
namespace FYR
open PySem PySem.Spec PyProof.Rows L2

/-! ### zip of two texts -/
def Itzs (x y : Str) : It :=
  ⟨fun i _ => i < min x.cps.size y.cps.size,
    fun i H v H' => ∃ (T : Addr) (c d : Nat), v = .ref T ∧ H T = none ∧ H' = upd H T (.tup [.str ⟨#[c]⟩, .str ⟨#[d]⟩]) ∧ x.cps[i]? = some c ∧ y.cps[i]? = some d,
    fun i _ => i = min x.cps.size y.cps.size⟩
theorem turn_zipS {P : Program} {w : World} {K : PySem.W.Frag} {elts : List Expr} {kk : Nat} {tpos : Pos} {x y : Str} {t u : Tok} {z TI TO i1 i2 : Addr} (S : ZipSep2 z TI TO i1 i2 [i1] [i2]) :
    Turn P w K (.Tuple elts kk tpos) (Itzs x y) (z :: TI :: TO :: ([i1] ++ [i2])) z (fun i h => IsZip h z TI TO .none ∧ IsTupOf2 h TI (.ref i1) (.ref i2) ∧ (∃ a1 a2, IsTupOf2 h TO a1 a2) ∧ h.IsStrIter i1 (strIterType x) x t i ∧ h.IsStrIter i2 (strIterType y) y u i) where
  mem := by simp
  obj := fun i h st c hc => by
    obtain ⟨hz, hTI, ⟨x', y', hTO⟩, ⟨o1, e1, _, d1⟩, ⟨o2, e2, _, d2⟩⟩ := st
    have e' : c = z ∨ c = TI ∨ c = TO ∨ c = i1 ∨ c = i2 := by simpa using hc
    rcases e' with q | q | q | q | q
    · rw [q]; exact ⟨_, hz, fun v q => nomatch q⟩
    · rw [q]; exact ⟨_, hTI, fun v q => nomatch q⟩
    · rw [q]; exact ⟨_, hTO, fun v q => nomatch q⟩
    · rw [q]; exact ⟨o1, e1, fun v q => by rw [d1] at q; cases q⟩
    · rw [q]; exact ⟨o2, e2, fun v q => by rw [d2] at q; cases q⟩
  keep := fun i h h' st k => by
    obtain ⟨hz, hTI, ⟨x', y', hTO⟩, ⟨o1, e1, c1, d1⟩, ⟨o2, e2, c2, d2⟩⟩ := st
    exact ⟨k z (by simp) _ hz, k TI (by simp) _ hTI, ⟨x', y', k TO (by simp) _ hTO⟩, ⟨o1, k i1 (by simp) _ e1, c1, d1⟩, ⟨o2, k i2 (by simp) _ e2, c2, d2⟩⟩
  item := by
    intro X hP hw hK hc i pins s σ H E I hf st hg
    subst hP hw hK
    have hh : X.A.in1.handled = none := I.ok.hd hc
    have W := WalksT.zipD2 (prog := X.prog) (w := X.w) (A := X.A) S (Draws.text hh i1 x t) (Draws.text hh i2 y u)
    refine W.item i s _ _ hg st fun T vals h' tk hp hT ht mid hk => ?_
    obtain ⟨x1, x2, ⟨c, t1, hc1, rfl⟩, ⟨d, t2, hd1, rfl⟩, rfl⟩ := hp
    refine ⟨_, rfl, W.go elts kk tpos i T { s with heap := h', toks := tk } _ _ mid fun h'' st'' hk2 => ?_⟩
    obtain ⟨oT, eT, cT, nT, dT⟩ := ht
    have hT2 : h''.get? T = some oT := hk2 _ _ (W.apart _ _ _ mid) eT
    have new : ObjOk X.prog X.w (upd H T (.tup [.str ⟨#[c]⟩, .str ⟨#[d]⟩])) h'' T (.tup [.str ⟨#[c]⟩, .str ⟨#[d]⟩]) :=
      ⟨by show 2 ≤ sizeLine; decide, [_, _], .cons ⟨_, rfl⟩ (.cons ⟨_, rfl⟩ .nil), ⟨_, hT2, cT, nT, dT⟩⟩
    have sub : ∀ b ∈ ([z, TO, i1, i2] : List Addr), b ∈ (z :: TI :: TO :: ([i1] ++ [i2])) := fun b hb => W.sub b hb
    have I1 : Inv X pins σ (upd H T (.tup [.str ⟨#[c]⟩, .str ⟨#[d]⟩])) { s with heap := h'', toks := tk } :=
      I.turnedNew (t' := tk) (ch := [z, TO, i1, i2]) (fun c o hb q => hk2 c o hb (hk c o hb q)) (fun b hb => hf b (sub b hb)) hT new
    refine ⟨.ref T, _, I1, rfl, ⟨T, c, d, rfl, I.hok.fresh hT, rfl, hc1, hd1⟩, st'', fun b hb => ?_⟩
    have hlt : b < s.heap.objs.size := by
      obtain ⟨hz, hTI, ⟨x', y', hTO⟩, ⟨o1, e1, c1, d1⟩, ⟨o2, e2, c2, d2⟩⟩ := st
      have e' : b = z ∨ b = TI ∨ b = TO ∨ b = i1 ∨ b = i2 := by simpa using hb
      rcases e' with q | q | q | q | q
      · rw [q]; exact Heap.lt_size hz
      · rw [q]; exact Heap.lt_size hTI
      · rw [q]; exact Heap.lt_size hTO
      · rw [q]; exact Heap.lt_size e1
      · rw [q]; exact Heap.lt_size e2
    rw [upd_ne (Nat.ne_of_lt (Nat.lt_of_lt_of_le hlt hT))]
    exact (hf b hb).1
  done := by
    intro X hP hw hK hc i pins s σ H E I hf st hg
    subst hP hw hK
    have hh : X.A.in1.handled = none := I.ok.hd hc
    have W := WalksT.zipD2 (prog := X.prog) (w := X.w) (A := X.A) S (Draws.text hh i1 x t) (Draws.text hh i2 y u)
    have sub : ∀ b ∈ ([z, TO, i1, i2] : List Addr), b ∈ (z :: TI :: TO :: ([i1] ++ [i2])) := fun b hb => W.sub b hb
    have hi : i = min x.cps.size y.cps.size := hg
    subst hi
    exact W.done s _ _ st fun h' tk hk => ⟨rfl, I.turnedL (t' := tk) (ch := [z, TO, i1, i2]) (fun c o hb q => hk c o hb q) (fun b hb => hf b (sub b hb))⟩
  self := fun A i s Q E st h => wpAny_pyIter_zip st.1 h

def iZipS (ta : TA) : TI := fun σ H R => ta σ H fun vs H1 => ∃ x y, vs = [.str x, .str y] ∧ R (Itzs x y) H1
theorem pi_zipS {X : Cx} {e e2 : Expr} {ta : TA} {p pos tpos : Pos} {elts : List Expr} {kk : Nat} (hg : Gl X "zip") (hm : X.mg "zip" = none) (ha : PA X [e, e2] ta)
    (hs : starEach [e, e2] X.env = (false, eval e X.env) :: starEach [e2] X.env := by rfl) (hpl : (backTo pos (starEach [e2] X.env)).any (·.1) = false := by rfl) :
    PI X (.Tuple elts kk tpos) (.Call (.Name "zip" p) [e, e2] [] pos) (iZipS ta) := by
  refine ⟨fun pins s σ H R I h => ?_⟩
  refine Call_ (ld_blt I hg hm PyProof.Rows.boot_zip (PyProof.Rows.callWith_type1 (thn (ha.run pos pins s σ H _ I h) fun us s1 ⟨vs, H1, I1, r1, q1⟩ => ?_) hs hpl))
  obtain ⟨x, y, ex, q1⟩ := q1
  subst ex
  cases r1 with
  | cons r rr =>
    cases rr with
    | cons r' rr =>
      cases rr
      obtain ⟨t, rfl⟩ := r
      obtain ⟨u, rfl⟩ := r'
      have fresh5 : ∀ c, c ∈ ((s1.heap.objs.size + 4) :: (s1.heap.objs.size + 2) :: (s1.heap.objs.size + 3) :: ([s1.heap.objs.size] ++ [s1.heap.objs.size + 1])) → FpOk X pins H1 c := fun c hcm => by
        have e' : c = s1.heap.objs.size + 4 ∨ c = s1.heap.objs.size + 2 ∨ c = s1.heap.objs.size + 3 ∨ c = s1.heap.objs.size ∨ c = s1.heap.objs.size + 1 := by simpa using hcm
        have hle : s1.heap.objs.size ≤ c := by
          rcases e' with z | z | z | z | z
          · rw [z]; exact Nat.le_add_right _ _
          · rw [z]; exact Nat.le_add_right _ _
          · rw [z]; exact Nat.le_add_right _ _
          · rw [z]; exact Nat.le_refl _
          · rw [z]; exact Nat.le_add_right _ _
        exact I1.fpOk hle (I1.hok.fresh hle)
      refine zip_begins2 (begins_text x t) (begins_text y u) trivial trivial fun h' hz hTI hTO h1 h2 hsz hk => wpAny_pyIter_zip hz ?_
      have I2 : Inv X pins σ H1 { s1 with heap := h' } := I1.kept (t' := s1.toks) hk
      exact ⟨s1.heap.objs.size + 4, _, _, _, H1, rfl, I2, turn_zipS (x := x) (y := y) (t := t) (u := u) (zip_sep2 (fp1 := []) (fp2 := []) (by simp) (by simp)), ⟨hz, hTI, ⟨_, _, hTO⟩, ⟨_, h1, rfl, rfl⟩, ⟨_, h2, rfl, rfl⟩⟩, fresh5, q1⟩
theorem walk_zipS {x y : Str} : Walk (Itzs x y) (min x.cps.size y.cps.size) (fun _ => True) (fun i H v H' => ∃ (T : Addr) (c d : Nat), v = .ref T ∧ H T = none ∧ H' = upd H T (.tup [.str ⟨#[c]⟩, .str ⟨#[d]⟩]) ∧ x.cps[i]? = some c ∧ y.cps[i]? = some d) :=
  ⟨fun _ _ hi _ => hi, fun _ _ => rfl, fun _ _ _ _ _ _ y => y⟩

/-! ### extend by a tuple -/
theorem list_extend_tup (l : Addr) (items : Array Value) (n : Nat) (b : Addr) (items2 : Array Value) (n2 : Nat) (db : Option Addr) (sb : Array (Option Value)) (hs0 : ¬(!items.isEmpty && Builtin.List.listTooLong (items.size + items2.size)) = true) (hs1 : items.size ≤ sizeLine) (hs2 : items.size + items2.size ≤ sizeLine + 1) :
    Meets (Builtin.«list.extend» ⟨[.ref l, .ref b], []⟩) (fun _ R s => s.heap.get? l = some { cls := .type "list", dict := none, data := .seq items n, slots := #[] } ∧ s.heap.get? b = some { cls := .type "tuple", dict := db, data := .seq items2 n2, slots := sb } ∧ R (.ok (.ret Value.none)) { s with heap := s.heap.update l (Obj.mapSeq fun x => x ++ items2), toks := s.toks }) :=
  .of_wp fun prog w A R s h => by
    obtain ⟨hp, g, d, tk, os⟩ := s; obtain ⟨hl, hb, h⟩ := h; have f1 := AutoSeq1.idx_int; have f2 := AutoSeq1.sub_tuple_tuple; have f3 := AutoSeq1.sub_list_list; have f4 := AutoSeq1.sub_tuple_list; have f5 := AutoSeq1.sub_list_tuple;
    have hz' : (items ++ items2).size ≤ sizeLine + 1 := by rw [Array.size_append]; exact hs2
    wp_walk using (wpAny_updateSeq hl rfl (hz := hs1) (_hz' := hz')), AutoSeq1.wpAny_loadPart' hl, AutoSeq1.wpAny_loadPart' hb; exact ⟨_, rfl, h⟩
def rExtendT (K : PySem.W.Frag) : V → List V → Hp → VK → Prop := fun x vs H Q => ∃ l b xs zs, x = .ref l ∧ vs = [.ref b] ∧ H l = some (.lst xs) ∧ SqT K H b zs ∧ xs.length + zs.length ≤ sizeLine ∧ Q .non (upd H l (.lst (xs ++ zs)))
theorem mt_extendT {X : Cx} : MtM X "list.extend" (rExtendT X.K) := by
  intro pins s σ H x vs v us Q I rx rv h
  obtain ⟨l, b, xs, zs, rfl, rfl, hH, hB, hz, q⟩ := h
  cases rx
  obtain ⟨u, rfl, ru⟩ := rv.one
  cases ru
  obtain ⟨z, its, n, r, hl, e⟩ := I.lstM hH
  obtain ⟨its2, r2, p2, z2⟩ := I.tuple hB
  have l2 := r2.length
  obtain ⟨o2, e2, c2, n2, d2⟩ := p2
  have hsz : its.toArray.size + its2.toArray.size ≤ sizeLine := by rw [List.size_toArray, List.size_toArray]; omega
  have hlong : ¬ (!its.toArray.isEmpty && Builtin.List.listTooLong (its.toArray.size + its2.toArray.size)) = true := by
    rw [notLongL hsz, Bool.and_false]
    exact Bool.false_ne_true
  obtain ⟨cls2, db, dat2, sb⟩ := o2
  have c2' : cls2 = .type "tuple" := c2
  have d2' : dat2 = .seq its2.toArray n2 := d2
  subst c2' d2'
  refine call_meets F.slot_list_extend ⟨_, e, rfl⟩ F.entry_list_extend (F.args_list_extend_2 _ _)
    (list_extend_tup l its.toArray n b its2.toArray n2 db sb hlong (by rw [List.size_toArray]; omega) (by omega)) ⟨e, e2, ?_⟩
  refine ⟨.non, _, I.lset (its' := its ++ its2) hH e (by simp) (r.append r2) ?_, rfl, q⟩
  rw [List.length_append]
  omega

/-! ### text * int -/
def rMulS : R2 := fun x y H Q => ∃ z k, x = .str z ∧ y = .int k ∧ MulOk z k ∧ Q (.str (Txt.mul z k)) H
theorem op_mul_str {X : Cx} : OpR X (binaryOp .Mult) rMulS := by
  intro pins s σ H x y v u Q I rx ry h
  obtain ⟨z, k, rfl, rfl, hok, q⟩ := h
  obtain ⟨t, rfl⟩ := rx
  obtain ⟨t', rfl⟩ := ry
  exact SB.mul hok fun t' k => ⟨.str _, H, I.tok _, ⟨_, rfl⟩, q⟩

/-! ### f(k = v, ..) -/
section
variable {X : Cx} {CX : CXT} {k : Nat} {f C : Addr} {fd : FuncData} {ps ks : List Str} {sp : Sp} {E : XK} {x m : Str} {p pos apos kpos : Pos} {kws : List Keyword} {tk : TA} {g : List Value → List Value → List Value} {gV : List V → List V → List V}
def tCallN0 (n : Nat) (sp : Sp) (gV : List V → List V → List V) (E : XK) (tk : TA) : TE := fun σ H Q => tk σ H fun zs H2 => zs.length = n ∧ sp (gV [] zs) H2 Q E
theorem pe_callN0 (F : FnOk X.prog X.w X.K X.mg X.base CX k f fd ps sp) (hr : Room k X.A) (hg : Gl X x) (hm : X.mg x = some (.ref f)) (hk : PySem.W.keepIn X.K (.ref f) = true) (hb : KBn X.K fd ps 0 ks g gV) (hx : Passes CX X E)
    (hkw : PK X kws tk) (hall : (backToKw pos (keywordEach kws X.env)).all (·.1.isSome) = true := by rfl) (hks : (backToKw pos (keywordEach kws X.env)).filterMap (·.1) = ks := by rfl)
    (hdb : (x == ("__debug__" : Str)) = false := by decide)
    (hpl : ((backTo pos (starEach [] X.env)).any (·.1) || (backToKw pos (keywordEach kws X.env)).any (·.1.isNone)) = false := by rfl) :
    PE X (.Call (.Name x p) [] kws pos) (tCallN0 ks.length sp gV E tk) := by
  refine ⟨fun pins s σ H Q I h => ?_⟩
  refine wpAny_Call_Name_kw (ld_glob I hg hm ?_ hdb)
  refine PySem.W.callWith_KW0 (h₀ := X.base) I.ok.mod.kin hk hall ?_ hpl
  refine thn (hkw.run pos pins s σ H _ I h) fun ws s2 ⟨zs, H2, I2, rz, l2, q2⟩ => ⟨I2.kIn, ?_⟩
  rw [hks]
  exact run_fnN (us := []) (vs := []) F hr hb hx I2 .nil rz rfl l2 q2
end
end FYR

set_option Elab.async false
set_option linter.all false
set_option maxRecDepth 100000
set_option maxHeartbeats 4000000
/-! list(zip(x, y)) of two texts -/
namespace FYR
open PySem PySem.Spec PyProof.Rows L2
section
variable {prog : Program} {w : World} {A : Around} {E : Value → Shared → Prop} {s : Shared} {z TI TO i1 i2 : Addr} {fp1 fp2 : List Addr} {n1 n2 i : Nat} {P1 P2 : Nat → Value → Prop} {St1 St2 : Nat → Heap → Prop} {T : Addr} {f : Bool} {oT : Obj}
theorem zipH_next_item {Q : Value → Shared → Prop} (S : ZipSep2 z TI TO i1 i2 fp1 fp2) (D1 : Draws prog w A i1 fp1 n1 P1 St1) (D2 : Draws prog w A i2 fp2 n2 P2 St2)
    (hz : IsZipHeld s.heap z TI TO T f) (hT : s.heap.get? T = some oT) (hTI : IsTupOf2 s.heap TI (.ref i1) (.ref i2)) (st1 : St1 i s.heap) (st2 : St2 i s.heap) (hlt1 : i < n1) (hlt2 : i < n2)
    (hQ : ∀ x1 x2 h' tk, P1 i x1 → P2 i x2 → IsZipHeld h' z TI TO T true → St1 (i + 1) h' → St2 (i + 1) h' → IsTupOf2 h' s.heap.objs.size x1 x2 → h'.objs.size = s.heap.objs.size + 1 →
      (∀ c o, c ≠ z → c ≠ i1 → c ≠ i2 → s.heap.get? c = some o → h'.get? c = some o) → Q (.ref s.heap.objs.size) { s with heap := h', toks := tk }) :
    wpAny (model prog w) A (Builtin.«zip.__next__» ⟨[.ref z], []⟩) (fun fin s' => ∃ v, fin = .done (.ret v) ∧ Q v s') E s := by
  obtain ⟨hp, g, d, tk0, os⟩ := s
  show wpAny _ _ (field (.ref z) 2 >>= _) _ _ _
  refine wpAny_bind (wpAny_field hz rfl (x := .bool false) rfl ?_)
  show wpAny _ _ (field (.ref z) 3 >>= _) _ _ _
  refine wpAny_bind (wpAny_field hz rfl (x := .ref TI) rfl ?_)
  refine wpAny_bind (wpAny_seqItems hTI rfl ?_)
  show wpAny _ _ (Builtin.SmallTypes.ownedTupleIsFree (.ref z) >>= _) _ _ _
  refine wpAny_bind (wpAny_tupleHeld_zip hz hT fun h₁ hz₁ hs₁ => ?_)
  simp only [Bool.false_eq_true, if_false]
  refine wpAny_bind ?_
  rw [← Array.forIn_toList]
  simp only [List.forIn_cons, List.forIn_nil]
  refine wpAny_bind (wpAny_bind (wpAny_holding ?_))
  show wpAny _ _ (Builtin.SmallTypes.nextOf (.ref i1) >>= _) _ _ ⟨h₁, g, d, tk0, os⟩
  refine wpAny_bind (D1.item i _ _ _ hlt1 (D1.over st1 hs₁ S.zf1) fun x1 h₂ tk1 hx1 sn1 hs₂ => wpAny_pure ?_)
  replace hs₂ : Heap.SameBut i1 h₁ h₂ := hs₂
  refine wpAny_pure ?_
  refine wpAny_bind (wpAny_bind (wpAny_holding ?_))
  show wpAny _ _ (Builtin.SmallTypes.nextOf (.ref i2) >>= _) _ _ ⟨h₂, g, d, tk1, os⟩
  refine wpAny_bind (D2.item i _ _ _ hlt2 (D2.over (D2.over st2 hs₁ S.zf2) hs₂ S.sep1_2) fun x2 h₃ tk2 hx2 sn2 hs₃ => wpAny_pure ?_)
  replace hs₃ : Heap.SameBut i2 h₂ h₃ := hs₃
  refine wpAny_pure (wpAny_pure ?_)
  show wpAny _ _ (newTuple [x1, x2] >>= _) _ _ ⟨h₃, g, d, tk2, os⟩
  refine wpAny_bind (wpAny_newTuple ?_)
  have hsz : h₃.objs.size = hp.objs.size := by rw [hs₃.1, hs₂.1, hs₁.1]
  have hz₃ : IsZipHeld h₃ z TI TO T true := hs₃.extBut _ _ S.zi2 (hs₂.extBut _ _ S.zi1 hz₁)
  have hk : ∀ c o, c ≠ z → c ≠ i1 → c ≠ i2 → hp.get? c = some o → h₃.get? c = some o := fun c o c1 c2 c3 e => hs₃.extBut _ _ c3 (hs₂.extBut _ _ c2 (hs₁.extBut _ _ c1 e))
  have hj1 : St1 (i + 1) h₃ := D1.over sn1 hs₃ S.sep2_1
  refine wpAny_pure ⟨_, rfl, ?_⟩
  show Q (.ref h₃.objs.size) ⟨h₃.push { cls := .type "tuple", data := .seq #[x1, x2] }, g, d, tk2, os⟩
  have hp' : IsTupOf2 (h₃.push { cls := .type "tuple", data := .seq #[x1, x2] }) h₃.objs.size x1 x2 := Heap.get?_push_size _ rfl
  have hz4 : (h₃.push { cls := .type "tuple", data := .seq #[x1, x2] }).objs.size = h₃.objs.size + 1 := Heap.size_push ..
  rw [hsz] at hp' hz4 ⊢
  exact hQ x1 x2 _ tk2 hx1 hx2 (Heap.get?_push_of_some _ hz₃) (D1.frame _ _ _ hj1 fun b _ o e => Heap.get?_push_of_some _ e) (D2.frame _ _ _ sn2 fun b _ o e => Heap.get?_push_of_some _ e) hp' hz4 fun c o c1 c2 c3 e => Heap.get?_push_of_some _ (hk c o c1 c2 c3 e)
theorem zipH_next_end {Q : Fin → Shared → Prop} (S : ZipSep2 z TI TO i1 i2 fp1 fp2) (D1 : Draws prog w A i1 fp1 n1 P1 St1) (D2 : Draws prog w A i2 fp2 n2 P2 St2)
    (hz : IsZipHeld s.heap z TI TO T f) (hT : s.heap.get? T = some oT) (hTI : IsTupOf2 s.heap TI (.ref i1) (.ref i2)) (st1 : St1 i s.heap) (st2 : St2 i s.heap) (hle1 : i ≤ n1) (hle2 : i ≤ n2) (hend : i = n1 ∨ i = n2)
    (hE : ∀ h' tk e, (∀ c o, c ≠ z → c ≠ i1 → c ≠ i2 → s.heap.get? c = some o → h'.get? c = some o) → (∃ o, h'.get? e = some o ∧ o.cls = .type "StopIteration") → E (.ref e) { s with heap := h', toks := tk }) :
    wpAny (model prog w) A (Builtin.«zip.__next__» ⟨[.ref z], []⟩) Q E s := by
  obtain ⟨hp, g, d, tk0, os⟩ := s
  show wpAny _ _ (field (.ref z) 2 >>= _) _ _ _
  refine wpAny_bind (wpAny_field hz rfl (x := .bool false) rfl ?_)
  show wpAny _ _ (field (.ref z) 3 >>= _) _ _ _
  refine wpAny_bind (wpAny_field hz rfl (x := .ref TI) rfl ?_)
  refine wpAny_bind (wpAny_seqItems hTI rfl ?_)
  show wpAny _ _ (Builtin.SmallTypes.ownedTupleIsFree (.ref z) >>= _) _ _ _
  refine wpAny_bind (wpAny_tupleHeld_zip hz hT fun h₁ hz₁ hs₁ => ?_)
  simp only [Bool.false_eq_true, if_false]
  refine wpAny_bind ?_
  rw [← Array.forIn_toList]
  simp only [List.forIn_cons, List.forIn_nil]
  refine wpAny_bind (wpAny_bind (wpAny_holding ?_))
  show wpAny _ _ (Builtin.SmallTypes.nextOf (.ref i1) >>= _) _ _ ⟨h₁, g, d, tk0, os⟩
  by_cases hi : i = n1
  · subst hi
    refine wpAny_bind (D1.done _ _ _ (D1.over st1 hs₁ S.zf1) fun h₂ e hs₂ he => ?_)
    exact hE h₂ tk0 e (fun c o c1 c2 _ x => hs₂ _ _ c2 (hs₁.extBut _ _ c1 x)) he
  · have h2 : i = n2 := hend.resolve_left hi
    subst h2
    refine wpAny_bind (D1.item i _ _ _ (by omega) (D1.over st1 hs₁ S.zf1) fun x1 h₂ tk1 hx1 sn1 hs₂ => wpAny_pure ?_)
    replace hs₂ : Heap.SameBut i1 h₁ h₂ := hs₂
    refine wpAny_pure ?_
    refine wpAny_bind (wpAny_bind (wpAny_holding ?_))
    show wpAny _ _ (Builtin.SmallTypes.nextOf (.ref i2) >>= _) _ _ ⟨h₂, g, d, tk1, os⟩
    refine wpAny_bind (D2.done _ _ _ (D2.over (D2.over st2 hs₁ S.zf2) hs₂ S.sep1_2) fun h₃ e hs₃ he => ?_)
    exact hE h₃ tk1 e (fun c o c1 c2 c3 x => hs₃ _ _ c3 (hs₂.extBut _ _ c2 (hs₁.extBut _ _ c1 x))) he
theorem pyNext_zipH_item {Q : Option Value → Shared → Prop} (S : ZipSep2 z TI TO i1 i2 fp1 fp2) (D1 : Draws prog w A.in1 i1 fp1 n1 P1 St1) (D2 : Draws prog w A.in1 i2 fp2 n2 P2 St2)
    (hz : IsZipHeld s.heap z TI TO T f) (hT : s.heap.get? T = some oT) (hTI : IsTupOf2 s.heap TI (.ref i1) (.ref i2)) (st1 : St1 i s.heap) (st2 : St2 i s.heap) (hlt1 : i < n1) (hlt2 : i < n2)
    (hQ : ∀ x1 x2 h' tk, P1 i x1 → P2 i x2 → IsZipHeld h' z TI TO T true → St1 (i + 1) h' → St2 (i + 1) h' → IsTupOf2 h' s.heap.objs.size x1 x2 → h'.objs.size = s.heap.objs.size + 1 →
      (∀ c o, c ≠ z → c ≠ i1 → c ≠ i2 → s.heap.get? c = some o → h'.get? c = some o) → Q (some (.ref s.heap.objs.size)) { s with heap := h', toks := tk }) :
    wpAny (model prog w) A (pyNext (.ref z)) Q E s := by
  have hTy : s.TypeIs (.ref z) "zip" := ⟨_, hz, rfl⟩
  unfold pyNext
  exact wpAny_bind (wpAny_attempt (wpAny_callSpecial?_slot (name := Str.ofString "__next__") hTy F.slot_zip_next
    (wpAny_call_entry F.slot_zip_next hTy F.entry_zip_next
      (zipH_next_item S D1 D2 hz hT hTI st1 st2 hlt1 hlt2 fun x1 x2 h' tk y1 y2 b1 d1 d2 b5 b6 b7 => wpAny_pure (hQ x1 x2 h' tk y1 y2 b1 d1 d2 b5 b6 b7)) (F.args_zip_next_1 _))))
theorem pyNext_zipH_end {Q : Option Value → Shared → Prop} (S : ZipSep2 z TI TO i1 i2 fp1 fp2) (D1 : Draws prog w A.in1 i1 fp1 n1 P1 St1) (D2 : Draws prog w A.in1 i2 fp2 n2 P2 St2)
    (hz : IsZipHeld s.heap z TI TO T f) (hT : s.heap.get? T = some oT) (hTI : IsTupOf2 s.heap TI (.ref i1) (.ref i2)) (st1 : St1 i s.heap) (st2 : St2 i s.heap) (hle1 : i ≤ n1) (hle2 : i ≤ n2) (hend : i = n1 ∨ i = n2)
    (hQ : ∀ h' tk, (∀ c o, c ≠ z → c ≠ i1 → c ≠ i2 → s.heap.get? c = some o → h'.get? c = some o) → Q none { s with heap := h', toks := tk }) : wpAny (model prog w) A (pyNext (.ref z)) Q E s := by
  have hTy : s.TypeIs (.ref z) "zip" := ⟨_, hz, rfl⟩
  unfold pyNext
  refine wpAny_bind (wpAny_attempt (wpAny_callSpecial?_slot (name := Str.ofString "__next__") hTy F.slot_zip_next
    (wpAny_call_entry F.slot_zip_next hTy F.entry_zip_next (zipH_next_end S D1 D2 hz hT hTI st1 st2 hle1 hle2 hend fun h' tk e hk he => ?_) (F.args_zip_next_1 _))))
  obtain ⟨o, ho, hc⟩ := he
  refine wpAny_bind (wpAny_isInstance (T := "StopIteration") (b := true) ⟨o, ho, hc⟩ isSubtype_stop ?_)
  exact wpAny_pure (hQ _ _ hk)
/-- the zip ahead of turn i, a tuple out or none -/
def ZSt (z TI TO i1 i2 S : Addr) (St1 St2 : Nat → Heap → Prop) (i : Nat) (h : Heap) : Prop :=
  IsTupOf2 h TI (.ref i1) (.ref i2) ∧ St1 i h ∧ St2 i h ∧ ((IsZip h z TI TO .none ∧ ∃ a1 a2, IsTupOf2 h TO a1 a2) ∨ ∃ T f oT, IsZipHeld h z TI TO T f ∧ h.get? T = some oT ∧ S < T)
theorem zst_item {Sl : Addr} {Q : Option Value → Shared → Prop} (S : ZipSep2 z TI TO i1 i2 fp1 fp2) (D1 : Draws prog w A.in1 i1 fp1 n1 P1 St1) (D2 : Draws prog w A.in1 i2 fp2 n2 P2 St2) (low : z < Sl ∧ TI < Sl ∧ TO < Sl ∧ i1 < Sl ∧ i2 < Sl) (hSl : Sl < s.heap.objs.size)
    (st : ZSt z TI TO i1 i2 Sl St1 St2 i s.heap) (hlt1 : i < n1) (hlt2 : i < n2)
    (hQ : ∀ x1 x2 h' tk, P1 i x1 → P2 i x2 → ZSt z TI TO i1 i2 Sl St1 St2 (i + 1) h' → IsTupOf2 h' s.heap.objs.size x1 x2 → h'.objs.size = s.heap.objs.size + 1 →
      (∀ c o, c ≠ z → c ≠ TO → c ≠ i1 → c ≠ i2 → s.heap.get? c = some o → h'.get? c = some o) → Q (some (.ref s.heap.objs.size)) { s with heap := h', toks := tk }) :
    wpAny (model prog w) A (pyNext (.ref z)) Q E s := by
  obtain ⟨hTI, st1, st2, ⟨hz, a1, a2, hTO⟩ | ⟨T, f, oT, hz, hT, hST⟩⟩ := st
  · refine wpAny_pyNext_zipD2_item S D1 D2 hz hTI hTO st1 st2 hlt1 hlt2 fun x1 x2 h' tk y1 y2 b1 b2 d1 d2 b5 b6 hk => ?_
    exact hQ x1 x2 h' tk y1 y2 ⟨hk _ _ S.TIz S.TITO S.TIi1 S.TIi2 hTI, d1, d2, .inr ⟨_, false, _, b1, b5, hSl⟩⟩ b5 b6 hk
  · refine pyNext_zipH_item S D1 D2 hz hT hTI st1 st2 hlt1 hlt2 fun x1 x2 h' tk y1 y2 b1 d1 d2 b5 b6 hk => ?_
    have nz : T ≠ z := fun e => absurd (Nat.lt_trans hST (e ▸ low.1)) (Nat.lt_irrefl _)
    have n1' : T ≠ i1 := fun e => absurd (Nat.lt_trans hST (e ▸ low.2.2.2.1)) (Nat.lt_irrefl _)
    have n2' : T ≠ i2 := fun e => absurd (Nat.lt_trans hST (e ▸ low.2.2.2.2)) (Nat.lt_irrefl _)
    exact hQ x1 x2 h' tk y1 y2 ⟨hk _ _ S.TIz S.TIi1 S.TIi2 hTI, d1, d2, .inr ⟨T, true, oT, b1, hk _ _ nz n1' n2' hT, hST⟩⟩ b5 b6 fun c o c1 _ c2 c3 e => hk c o c1 c2 c3 e
theorem zst_end {Sl : Addr} {Q : Option Value → Shared → Prop} (S : ZipSep2 z TI TO i1 i2 fp1 fp2) (D1 : Draws prog w A.in1 i1 fp1 n1 P1 St1) (D2 : Draws prog w A.in1 i2 fp2 n2 P2 St2)
    (st : ZSt z TI TO i1 i2 Sl St1 St2 i s.heap) (hle1 : i ≤ n1) (hle2 : i ≤ n2) (hend : i = n1 ∨ i = n2)
    (hQ : ∀ h' tk, (∀ c o, c ≠ z → c ≠ TO → c ≠ i1 → c ≠ i2 → s.heap.get? c = some o → h'.get? c = some o) → Q none { s with heap := h', toks := tk }) : wpAny (model prog w) A (pyNext (.ref z)) Q E s := by
  obtain ⟨hTI, st1, st2, ⟨hz, a1, a2, hTO⟩ | ⟨T, f, oT, hz, hT, hST⟩⟩ := st
  · exact wpAny_pyNext_zipD2_end S D1 D2 hz hTI hTO st1 st2 hle1 hle2 hend hQ
  · exact pyNext_zipH_end S D1 D2 hz hT hTI st1 st2 hle1 hle2 hend fun h' tk hk => hQ h' tk fun c o c1 _ c2 c3 e => hk c o c1 c2 c3 e
end
structure ZipG (P1 P2 : Nat → Value → Prop) (lo : Addr) (h : Heap) (as : List Addr) : Prop where
  rise : as.Pairwise (· < ·)
  above : ∀ a ∈ as, lo < a
  pairs : ∀ (j : Nat) (a : Addr), as[j]? = some a → ∃ x1 x2, P1 j x1 ∧ P2 j x2 ∧ IsTupOf2 h a x1 x2
section
variable {prog : Program} {w : World} {A : Around} {s : Shared} {R : Result → Shared → Prop} {z TI TO i1 i2 : Addr} {fp1 fp2 : List Addr} {n1 n2 : Nat} {P1 P2 : Nat → Value → Prop} {St1 St2 : Nat → Heap → Prop}
theorem ZipG.there {lo : Addr} {h : Heap} {as : List Addr} (g : ZipG P1 P2 lo h as) {a : Addr} (ha : a ∈ as) : a < h.objs.size := by
  obtain ⟨j, hj⟩ := List.mem_iff_getElem?.mp ha
  obtain ⟨_, _, _, _, e⟩ := g.pairs j a hj
  exact Heap.lt_size e
theorem zip_loop {S : Addr} (Sp : ZipSep2 z TI TO i1 i2 fp1 fp2) (D1 : Draws prog w A.in1.in1 i1 fp1 n1 P1 St1) (D2 : Draws prog w A.in1.in1 i2 fp2 n2 P2 St2) (low : z < S ∧ TI < S ∧ TO < S ∧ i1 < S ∧ i2 < S) (lf1 : ∀ b ∈ fp1, b < S) (lf2 : ∀ b ∈ fp2, b < S) (hn : min n1 n2 ≤ sizeLine) (res : Value) {h₁ : Heap}
    (hR : ∀ h' tk acc c as, (∀ b o, b ≠ S → b ≠ z → b ≠ TO → b ≠ i1 → b ≠ i2 → h₁.get? b = some o → h'.get? b = some o) → h'.get? S = some { cls := .type "list", dict := none, data := .seq acc c, slots := #[] } → as.length = min n1 n2 → ZipG P1 P2 S h' as →
      acc.toList = as.map Value.ref → R (.ok (.ret res)) { s with heap := h', toks := tk }) :
    ∀ (k i : Nat) (h : Heap) (tk c : Nat) (acc : Array Value) (as : List Addr), min n1 n2 - i = k → i ≤ min n1 n2 → ZSt z TI TO i1 i2 S St1 St2 i h → (∀ b o, b ≠ S → b ≠ z → b ≠ TO → b ≠ i1 → b ≠ i2 → h₁.get? b = some o → h.get? b = some o) →
      h.get? S = some { cls := .type "list", dict := none, data := .seq acc c, slots := #[] } → acc.toList = as.map Value.ref → as.length = i → ZipG P1 P2 S h as →
      codeAny (model prog w) A (.builtin "list.extend.loop" ⟨[.ref S, .ref z, res], []⟩) R { s with heap := h, toks := tk } := by
  have nS : ∀ b, b ≠ z → b ≠ TO → b ≠ i1 → b ≠ i2 → True := fun _ _ _ _ _ => trivial
  have Sz : S ≠ z := Nat.ne_of_gt low.1
  have STO : S ≠ TO := Nat.ne_of_gt low.2.2.1
  have S1 : S ≠ i1 := Nat.ne_of_gt low.2.2.2.1
  have S2 : S ≠ i2 := Nat.ne_of_gt low.2.2.2.2
  intro k
  induction k with
  | zero =>
    intro i h tk c acc as hk hi hst hkeep hS hacc hal hG
    have hin : i = min n1 n2 := by omega
    refine codeAny_builtin PySem.F.entry_extend_loop ?_
    rw [Around.under_plainId PySem.F.plain_extend_loop _]
    show wpAny _ A.in1 (pyNext (.ref z) >>= _) _ _ _
    refine wpAny_bind (zst_end (s := { s with heap := h, toks := tk }) (A := A.in1) Sp D1 D2 hst (by omega) (by omega) (by omega) fun h' tk' he => ?_)
    refine wpAny_pure (hR h' tk' acc c as (fun b o h0 h1 h2 h3 h4 e => he b o h1 h2 h3 h4 (hkeep b o h0 h1 h2 h3 h4 e)) (he S _ Sz STO S1 S2 hS) (by omega) ⟨hG.rise, hG.above, fun j a hj => ?_⟩ hacc)
    obtain ⟨x1, x2, p1, p2, e3⟩ := hG.pairs j a hj
    have ha := hG.above a (List.mem_of_getElem? hj)
    exact ⟨x1, x2, p1, p2, he a _ (Nat.ne_of_gt (Nat.lt_trans low.1 ha)) (Nat.ne_of_gt (Nat.lt_trans low.2.2.1 ha)) (Nat.ne_of_gt (Nat.lt_trans low.2.2.2.1 ha)) (Nat.ne_of_gt (Nat.lt_trans low.2.2.2.2 ha)) e3⟩
  | succ k ih =>
    intro i h tk c acc as hk hi hst hkeep hS hacc hal hG
    have hsz : acc.size = i := by rw [← Array.length_toList, hacc, List.length_map, hal]
    refine codeAny_builtin PySem.F.entry_extend_loop ?_
    rw [Around.under_plainId PySem.F.plain_extend_loop _]
    show wpAny _ A.in1 (pyNext (.ref z) >>= _) _ _ _
    refine wpAny_bind (zst_item (s := { s with heap := h, toks := tk }) (A := A.in1) Sp D1 D2 low (Heap.lt_size hS) hst (by omega) (by omega) fun x1 x2 h' tk' y1 y2 hst' ht hz hkp => ?_)
    dsimp only at ht hz hkp ⊢
    have hS' := hkp S _ Sz STO S1 S2 hS
    have up : ∀ b o, b ≠ S → h'.get? b = some o → (h'.update S (Obj.mapSeq (·.push (Value.ref h.objs.size)))).get? b = some o := fun b o hb e => (Heap.get?_update_other _ _ (Ne.symm hb)).trans e
    have hSl : S < h.objs.size := Heap.lt_size hS
    have zst2 : ZSt z TI TO i1 i2 S St1 St2 (i + 1) (h'.update S (Obj.mapSeq (·.push (Value.ref h.objs.size)))) := by
      obtain ⟨a1, a2, a3, a4⟩ := hst'
      refine ⟨up _ _ (Nat.ne_of_lt low.2.1) a1, D1.frame _ _ _ a2 fun b hb o e => up b o (Nat.ne_of_lt (lf1 b hb)) e, D2.frame _ _ _ a3 fun b hb o e => up b o (Nat.ne_of_lt (lf2 b hb)) e, ?_⟩
      rcases a4 with ⟨q1, q2, q3, q4⟩ | ⟨T, f, oT, q1, q2, q3⟩
      · exact .inl ⟨up _ _ (Ne.symm Sz) q1, q2, q3, up _ _ (Ne.symm STO) q4⟩
      · exact .inr ⟨T, f, oT, up _ _ (Ne.symm Sz) q1, up _ _ (Nat.ne_of_gt q3) q2, q3⟩
    show wpAny _ A.in1 (updateSeq S (·.push (Value.ref h.objs.size)) >>= _) _ _ _
    refine wpAny_bind ?_
    refine wpAny_updateSeq hS' rfl (wpAny_pure ⟨plainId_quiet PySem.F.plain_extend_loop _, ih (i + 1) _ tk' _ (acc.push (Value.ref h.objs.size)) (as ++ [h.objs.size]) (by omega) (by omega) zst2
      (fun b o h0 h1 h2 h3 h4 e => up b o h0 (hkp b o h1 h2 h3 h4 (hkeep b o h0 h1 h2 h3 h4 e))) (Heap.get?_update_self _ hS' rfl) (by rw [Array.toList_push, hacc, List.map_append]; rfl) (by rw [List.length_append, hal]; rfl) ⟨?_, ?_, ?_⟩⟩) (by rw [hsz]; omega) (by show (acc.push (Value.ref h.objs.size)).size ≤ sizeLine + 1; rw [Array.size_push, hsz]; omega)
    · refine List.pairwise_append.mpr ⟨hG.rise, List.pairwise_singleton _ _, fun a ha b hb => ?_⟩
      rw [List.mem_singleton.mp hb]
      exact hG.there ha
    · intro a ha
      rcases List.mem_append.mp ha with ha | ha
      · exact hG.above a ha
      · rw [List.mem_singleton.mp ha]; exact hSl
    · intro j b hj
      rcases Nat.lt_trichotomy j as.length with h1 | h1 | h1
      · rw [List.getElem?_append_left h1] at hj
        obtain ⟨w1, w2, p1, p2, e3⟩ := hG.pairs j b hj
        have ha := hG.above b (List.mem_of_getElem? hj)
        exact ⟨w1, w2, p1, p2, up b _ (Nat.ne_of_gt ha) (hkp b _ (Nat.ne_of_gt (Nat.lt_trans low.1 ha)) (Nat.ne_of_gt (Nat.lt_trans low.2.2.1 ha)) (Nat.ne_of_gt (Nat.lt_trans low.2.2.2.1 ha)) (Nat.ne_of_gt (Nat.lt_trans low.2.2.2.2 ha)) e3)⟩
      · subst h1
        have hb : h.objs.size = b := by simpa using hj
        subst hb
        exact ⟨x1, x2, by rw [hal]; exact y1, by rw [hal]; exact y2, up _ _ (Nat.ne_of_gt hSl) ht⟩
      · have hnone : (as ++ [h.objs.size])[j]? = none := List.getElem?_eq_none (by rw [List.length_append, List.length_singleton]; omega)
        rw [hnone] at hj; cases hj
end
end FYR

set_option Elab.async false
set_option linter.all false
set_option maxRecDepth 100000
set_option maxHeartbeats 4000000
/-! list(zip(x, y)) of two texts; x[i:j:k] -/
namespace FYR
open PySem PySem.Spec PyProof.Rows L2
theorem nolen_zip : typeLookup (.type "zip") "__len__" = pure none := by rw [typeLookup_type, builtinLookup_eq_fast]; kernel_rfl
theorem nohint_zip : typeLookup (.type "zip") "__length_hint__" = pure none := by rw [typeLookup_type, builtinLookup_eq_fast]; kernel_rfl
section
variable {prog : Program} {w : World} {A : Around} {E : Value → Shared → Prop} {s : Shared} {z TI TO i1 i2 : Addr} {fp1 fp2 : List Addr} {n1 n2 : Nat} {P1 P2 : Nat → Value → Prop} {St1 St2 : Nat → Heap → Prop}
/-- a fresh zip -/
def ZNew (z TI TO i1 i2 : Addr) (St1 St2 : Nat → Heap → Prop) (h : Heap) : Prop :=
  IsTupOf2 h TI (.ref i1) (.ref i2) ∧ St1 0 h ∧ St2 0 h ∧ IsZip h z TI TO .none ∧ ∃ a1 a2, IsTupOf2 h TO a1 a2
theorem zl_extend {R : Result → Shared → Prop} (Sp : ZipSep2 z TI TO i1 i2 fp1 fp2) (D1 : Draws prog w A.in1.in1 i1 fp1 n1 P1 St1) (D2 : Draws prog w A.in1.in1 i2 fp2 n2 P2 St2) (hv : ZNew z TI TO i1 i2 St1 St2 s.heap) (S : Addr)
    (low : z < S ∧ TI < S ∧ TO < S ∧ i1 < S ∧ i2 < S) (lf1 : ∀ b ∈ fp1, b < S) (lf2 : ∀ b ∈ fp2, b < S) (res : Value) (c₀ : Nat) (hS : s.heap.get? S = some { cls := .type "list", data := .seq #[] c₀ })
    (hR : ∀ h' tk acc c as, (∀ b o, b ≠ S → b ≠ z → b ≠ TO → b ≠ i1 → b ≠ i2 → s.heap.get? b = some o → h'.get? b = some o) → h'.get? S = some { cls := .type "list", dict := none, data := .seq acc c, slots := #[] } → as.length = min n1 n2 → ZipG P1 P2 S h' as →
      acc.toList = as.map Value.ref → R (.ok (.ret res)) { s with heap := h', toks := tk }) (hn : min n1 n2 ≤ sizeLine) :
    wpAny (model prog w) A.in1 (Builtin.List.listExtendWith (.ref S) (.ref z) res)
      (fun fin s' => match fin with | .done f => R (.ok f) s' | .again c' => c'.quiet = true ∧ codeAny (model prog w) A c' R s') (fun e s' => R (.error e) s') s := by
  have hTy : s.TypeIs (.ref z) "zip" := ⟨_, hv.2.2.2.1, rfl⟩
  have key : ∀ (h : Heap) (c₁ tk : Nat), (∀ b o, b ≠ S → s.heap.get? b = some o → h.get? b = some o) →
      h.get? S = some { cls := .type "list", data := .seq #[] c₁ } → codeAny (model prog w) A (.builtin "list.extend.loop" ⟨[.ref S, .ref z, res], []⟩) R { s with heap := h, toks := tk } := by
    intro h c₁ tk hk hS₁
    obtain ⟨q1, q2, q3, q4, a1, a2, q5⟩ := hv
    refine zip_loop (s := s) (h₁ := s.heap) Sp D1 D2 low lf1 lf2 hn res hR (min n1 n2) 0 h tk c₁ #[] [] (Nat.sub_zero _) (Nat.zero_le _)
      ⟨hk _ _ (Nat.ne_of_lt low.2.1) q1, D1.frame _ _ _ q2 fun b hb o e => hk b o (Nat.ne_of_lt (lf1 b hb)) e, D2.frame _ _ _ q3 fun b hb o e => hk b o (Nat.ne_of_lt (lf2 b hb)) e, .inl ⟨hk _ _ (Nat.ne_of_lt low.1) q4, a1, a2, hk _ _ (Nat.ne_of_lt low.2.2.1) q5⟩⟩
      (fun b o h0 _ _ _ _ e => hk b o h0 e) hS₁ rfl rfl ⟨List.Pairwise.nil, (fun _ ha => nomatch ha), (fun j a hj => by simp at hj)⟩
  unfold Builtin.List.listExtendWith
  refine wpAny_bind (wpAny_typeOf (T := "zip") hTy ?_)
  have h1 : Builtin.List.listSameRef (.ref S) (.ref z) = false := by simp [Builtin.List.listSameRef, Nat.ne_of_gt low.1]
  have h2 : (Value.type "zip" == Value.type "list") = false := by decide
  have h3 : (Value.type "zip" == Value.type "tuple") = false := by decide
  simp only [h1, h2, h3, Bool.or_false, Bool.false_eq_true, if_false]
  refine wpAny_bind (wpAny_pyIter_zip hv.2.2.2.1 ?_)
  refine wpAny_bind (wpAny_holding ?_)
  unfold Builtin.List.listLengthHint
  refine wpAny_bind (wpAny_specialOf hTy nolen_zip ?_)
  show wpAny _ A.in1 (specialOf (Value.ref z) (Str.ofString "__length_hint__") >>= _) _ _ _
  refine wpAny_bind (wpAny_specialOf hTy nohint_zip ?_)
  refine wpAny_pure ?_
  refine wpAny_ite_split (fun _ => ?_) (fun _ => wpAny_pure ⟨plainId_quiet PySem.F.plain_extend_loop _, key _ c₀ _ (fun b o _ e => e) hS⟩)
  refine wpAny_bind (wpAny_rule ?_)
  refine wpAny_bind ?_
  show wpAny _ _ (updateSeq S (·.push .none) >>= fun _ => updateSeq S (·.pop)) _ _ _
  refine wpAny_bind (wpAny_updateSeq hS rfl ?_)
  have hS₂ := Heap.get?_update_self (Obj.mapSeq (·.push Value.none)) hS rfl
  refine wpAny_updateSeq (hz := by seq_fits) hS₂ rfl ?_
  have hS₃ := Heap.get?_update_self (Obj.mapSeq (·.pop)) hS₂ rfl
  refine wpAny_pure ⟨plainId_quiet PySem.F.plain_extend_loop _, key _ _ _ (fun b o hb e => ?_) hS₃⟩
  exact (Heap.get?_update_other _ _ (Ne.symm hb)).trans ((Heap.get?_update_other _ _ (Ne.symm hb)).trans e)
theorem ZNew.keep {h h' : Heap} (D1 : Draws prog w A i1 fp1 n1 P1 St1) (D2 : Draws prog w A i2 fp2 n2 P2 St2) (hv : ZNew z TI TO i1 i2 St1 St2 h) (k : ∀ b o, (b = z ∨ b = TI ∨ b = TO ∨ b ∈ fp1 ∨ b ∈ fp2) → h.get? b = some o → h'.get? b = some o) : ZNew z TI TO i1 i2 St1 St2 h' := by
  obtain ⟨q1, q2, q3, q4, a1, a2, q5⟩ := hv
  exact ⟨k _ _ (by simp) q1, D1.frame _ _ _ q2 fun b hb o e => k b o (by simp [hb]) e, D2.frame _ _ _ q3 fun b hb o e => k b o (by simp [hb]) e, k _ _ (by simp) q4, a1, a2, k _ _ (by simp) q5⟩
theorem zl_init {R : Result → Shared → Prop} (Sp : ZipSep2 z TI TO i1 i2 fp1 fp2) (D1 : Draws prog w A.in1.in1 i1 fp1 n1 P1 St1) (D2 : Draws prog w A.in1.in1 i2 fp2 n2 P2 St2) (hv : ZNew z TI TO i1 i2 St1 St2 s.heap) (S : Addr)
    (low : z < S ∧ TI < S ∧ TO < S ∧ i1 < S ∧ i2 < S) (lf1 : ∀ b ∈ fp1, b < S) (lf2 : ∀ b ∈ fp2, b < S) (hS : s.heap.get? S = some { cls := .type "list", data := .seq #[] })
    (hR : ∀ h' tk acc c as, (∀ b o, b ≠ S → b ≠ z → b ≠ TO → b ≠ i1 → b ≠ i2 → s.heap.get? b = some o → h'.get? b = some o) → h'.get? S = some { cls := .type "list", dict := none, data := .seq acc c, slots := #[] } → as.length = min n1 n2 → ZipG P1 P2 S h' as →
      acc.toList = as.map Value.ref → R (.ok (.ret .none)) { s with heap := h', toks := tk }) (hn : min n1 n2 ≤ sizeLine) :
    wpAny (model prog w) A.in1 (Builtin.«list.__init__» ⟨[.ref S, .ref z], []⟩)
      (fun fin s' => match fin with | .done f => R (.ok f) s' | .again c' => c'.quiet = true ∧ codeAny (model prog w) A c' R s') (fun e s' => R (.error e) s') s := by
  show wpAny _ _ (do let old ← Builtin.List.listItems (.ref S); Builtin.List.listUpdate (.ref S) (fun _ => #[]); letGo old.toList.reverse; Builtin.List.listExtendWith (.ref S) (.ref z) .none) _ _ s
  refine wpAny_bind ?_
  unfold Builtin.List.listItems
  refine wpAny_bind (wpAny_seqItems hS rfl (wpAny_pure ?_))
  show wpAny _ _ (updateSeq S (fun _ => #[]) >>= fun _ => letGo (#[] : Array Value).toList.reverse >>= fun _ => Builtin.List.listExtendWith (.ref S) (.ref z) .none) _ _ s
  refine wpAny_bind (wpAny_updateSeq hS rfl ?_)
  have hS₂ := Heap.get?_update_self (Obj.mapSeq (fun _ => (#[] : Array Value))) hS rfl
  have oth : ∀ b o, b ≠ S → s.heap.get? b = some o → (s.heap.update S (Obj.mapSeq (fun _ => (#[] : Array Value)))).get? b = some o :=
    fun b o hb e => (Heap.get?_update_other _ _ (Ne.symm hb)).trans e
  refine wpAny_bind (wpAny_letGo ?_)
  refine zl_extend Sp D1 D2 (ZNew.keep D1 D2 hv fun b o hb e => oth b o ?_ e) S low lf1 lf2 .none _ hS₂ (fun h' tk acc c as hk hS' hl hG hacc => ?_) hn
  · rcases hb with q | q | q | q | q
    · rw [q]; exact Nat.ne_of_lt low.1
    · rw [q]; exact Nat.ne_of_lt low.2.1
    · rw [q]; exact Nat.ne_of_lt low.2.2.1
    · exact Nat.ne_of_lt (lf1 b q)
    · exact Nat.ne_of_lt (lf2 b q)
  · exact hR h' tk acc c as (fun b o h0 h1 h2 h3 h4 e => hk b o h0 h1 h2 h3 h4 (oth b o h0 e)) hS' hl hG hacc
theorem zl_call {Q : Value → Shared → Prop} (Sp : ZipSep2 z TI TO i1 i2 fp1 fp2) (D1 : Draws prog w A.in1.in1.in1 i1 fp1 n1 P1 St1) (D2 : Draws prog w A.in1.in1.in1 i2 fp2 n2 P2 St2) (hv : ZNew z TI TO i1 i2 St1 St2 s.heap)
    (low : z < s.heap.objs.size ∧ TI < s.heap.objs.size ∧ TO < s.heap.objs.size ∧ i1 < s.heap.objs.size ∧ i2 < s.heap.objs.size) (lf1 : ∀ b ∈ fp1, b < s.heap.objs.size) (lf2 : ∀ b ∈ fp2, b < s.heap.objs.size) (hn : min n1 n2 ≤ sizeLine)
    (hQ : ∀ h' tk acc c as, (∀ b o, b ≠ z → b ≠ TO → b ≠ i1 → b ≠ i2 → s.heap.get? b = some o → h'.get? b = some o) → h'.get? s.heap.objs.size = some { cls := .type "list", dict := none, data := .seq acc c, slots := #[] } → as.length = min n1 n2 → ZipG P1 P2 s.heap.objs.size h' as →
      acc.toList = as.map Value.ref → Q (.ref s.heap.objs.size) { s with heap := h', toks := tk }) :
    wpAny (model prog w) A (call (.type "list") [.ref z]) Q E s := by
  refine callType_codes (Q₁ := fun obj s₁ => obj = .ref s.heap.objs.size ∧ s₁ = { s with heap := s.heap.push { cls := .type "list", data := .seq #[] } }) PySem.F.called_list (PySem.F.typeCall_list_1 _) PySem.F.entry_list_init
    (code_list_new _ ⟨rfl, rfl⟩) fun obj s₁ h₁ => ?_
  obtain ⟨rfl, rfl⟩ := h₁
  have hS : (s.heap.push { cls := .type "list", data := .seq #[] }).get? s.heap.objs.size = some { cls := .type "list", data := .seq #[] } := Heap.get?_push_size _ rfl
  refine ⟨⟨_, hS, rfl⟩, PySem.F.args_list_init_2 _ _, zl_init (A := A.in1) Sp D1 D2 (ZNew.keep D1 D2 hv fun b o _ e => Heap.get?_push_of_some _ e) _ low lf1 lf2 hS (fun h' tk acc c as hk hS' hl hG hacc => ?_) hn⟩
  exact ⟨rfl, hQ h' tk acc c as (fun b o h1 h2 h3 h4 e => hk b o (Nat.ne_of_lt (Heap.lt_size e)) h1 h2 h3 h4 (Heap.get?_push_of_some _ e)) hS' hl hG hacc⟩
end

/-! ### x[i:j:k] of a text -/
def stepS (z : Str) (l u : Option Int) (k : Int) : Str :=
  if (k == 1 && (Builtin.Str.strSliceIndices l u k z.length).length == z.length) = true then z else ⟨((Builtin.Str.strSliceIndices l u k z.length).filterMap (z.cps[·]?)).toArray⟩
theorem stepS_length (z : Str) (l u : Option Int) (k : Int) (hk : k ≠ 0) : (stepS z l u k).length ≤ z.length := by
  unfold stepS
  split
  · exact Nat.le_refl _
  · show (List.filterMap _ (Builtin.Str.strSliceIndices l u k z.length)).toArray.size ≤ z.length
    rw [List.size_toArray]
    exact Nat.le_trans (List.length_filterMap_le _ _) (sliceIndicesBy_le _ _ _ hk z.length)
section
variable {X : Cx} {e st : Expr} {lo hi : Option Expr} {te : TE} {tl th ts : TO} {p2 pos : Pos}
def tStepS (te : TE) (tl th ts : TO) : TE := fun σ H Q => te σ H fun x H1 => tl σ H1 fun l H2 => th σ H2 fun u H3 => ts σ H3 fun k H4 => ∃ (z : Str) (i : Int), x = .str z ∧ k = some i ∧ i ≠ 0 ∧ z.length ≤ sizeLine ∧ Q (.str (stepS z l u i)) H4
theorem pe_stepS (he : PE X e te) (hl : PO X lo tl) (hu : PO X hi th) (hst : PO X (some st) ts) : PE X (.Subscript e (.Slice lo hi (some st) p2) pos) (tStepS te tl th ts) := by
  refine ⟨fun pins s σ H Q I h => ?_⟩
  refine Subscript_ (thn (he.run pins s σ H _ I h) fun v s1 ⟨x, H1, I1, r1, q1⟩ => ?_)
  refine wpAny_Slice (thn (hl.run pins s1 σ H1 _ I1 q1) fun vl s2 ⟨l, H2, I2, pl, q2⟩ => thn (hu.run pins s2 σ H2 _ I2 q2) fun vu s3 ⟨u, H3, I3, pu, q3⟩ => thn (hst.run pins s3 σ H3 _ I3 q3) fun vk s4 ⟨k, H4, I4, pk, q4⟩ => ?_)
  have I5 : Inv X pins σ H4 { s4 with heap := s4.heap.push { cls := .type "slice", data := .fields #[vl, vu, vk] } } := I4.kept (t' := s4.toks) fun b ob q => Heap.get?_push_of_some _ q
  obtain ⟨z, i, rfl, rfl, hi0, hz, q⟩ := q4
  obtain ⟨t, rfl⟩ := r1
  obtain ⟨l', rfl, rfl⟩ := IsPart.raw pl
  obtain ⟨u', rfl, rfl⟩ := IsPart.raw pu
  obtain ⟨k', rfl, ek⟩ := IsPart.raw pk
  have hlen := stepS_length z (l'.map (·.1)) (u'.map (·.1)) i hi0
  have ek2 : ((k'.map (·.1)).getD 1) = i := by rw [ek]; rfl
  show wpAny (model X.prog X.w) X.A (subscriptTail e (.Slice lo hi (some st) p2) (.str z t) (.ref s4.heap.objs.size)) (EP X pins σ Q) X.xe { s4 with heap := s4.heap.push { cls := .type "slice", data := .fields #[partValue l', partValue u', partValue k'] } }
  refine tail_any (ops := [.str z t, .ref s4.heap.objs.size]) (typeIs_str _ _ _) F.slot_str_getitem.lookup ?_ (by with_unfolding_all rfl)
  refine wpAny_getItem_str_slice (l := l') (u := u') (st := k') ⟨_, Heap.get?_push_size _ rfl, rfl, rfl⟩ (by rw [ek2]; simpa using hi0) ?_
  unfold stepS at q hlen
  show Made.post (if ((k'.map (·.1)).getD 1 == 1 && (Builtin.Str.strSliceIndices (l'.map (·.1)) (u'.map (·.1)) ((k'.map (·.1)).getD 1) z.length).length == z.length) = true then Made.val (.str z t)
    else Made.str ⟨((Builtin.Str.strSliceIndices (l'.map (·.1)) (u'.map (·.1)) ((k'.map (·.1)).getD 1) z.length).filterMap (z.cps[·]?)).toArray⟩) (EP X pins σ Q) _
  rw [ek2]
  by_cases c : (i == 1 && (Builtin.Str.strSliceIndices (l'.map (·.1)) (u'.map (·.1)) i z.length).length == z.length) = true
  · rw [if_pos c] at q ⊢
    exact ⟨.str z, H4, I5, ⟨t, rfl⟩, q⟩
  · rw [if_neg c] at q hlen ⊢
    exact ⟨Nat.le_trans hlen hz, .str _, H4, I5.tok _, ⟨_, rfl⟩, q⟩
end
end FYR

set_option Elab.async false
set_option linter.all false
set_option maxRecDepth 100000
set_option maxHeartbeats 4000000
namespace FYR
open PySem PySem.Spec PyProof.Rows L2
/-- pairs tracked at their addresses -/
def putP : Hp → List Addr → List (V × V) → Hp
  | H, a :: as, p :: ps => putP (upd H a (.tup [p.1, p.2])) as ps
  | H, _, _ => H
theorem putP_off {b : Addr} : ∀ (as : List Addr) (ps : List (V × V)) (H : Hp), b ∉ as → putP H as ps b = H b
  | [], _, _, _ => rfl
  | _ :: _, [], _, _ => rfl
  | a :: as, p :: ps, H, h => by
    show putP (upd H a (.tup [p.1, p.2])) as ps b = H b
    rw [putP_off as ps _ (fun z => h (List.mem_cons_of_mem _ z)), upd_ne (fun z => h (by rw [z]; exact List.mem_cons_self))]
theorem putP_at : ∀ (as : List Addr) (ps : List (V × V)) (H : Hp), as.length = ps.length → as.Nodup → Paired (fun (t : Addr) (p : V × V) => putP H as ps t = some (.tup [p.1, p.2])) as ps
  | [], [], _, _, _ => .nil
  | [], _ :: _, _, h, _ => by cases h
  | _ :: _, [], _, h, _ => by cases h
  | a :: as, p :: ps, H, h, hn => by
    have hn' := List.nodup_cons.mp hn
    have ih := putP_at as ps (upd H a (.tup [p.1, p.2])) (Nat.succ.inj h) hn'.2
    refine .cons ?_ ih
    show putP (upd H a (.tup [p.1, p.2])) as ps a = some (.tup [p.1, p.2])
    rw [putP_off as ps _ hn'.1, upd_same]
def sg (c : Nat) : V := .str ⟨#[c]⟩
/-- the pairs of two texts -/
def zipV (x y : Str) : List (V × V) := (x.cps.toList.zip y.cps.toList).map fun p => (sg p.1, sg p.2)
theorem zipV_len (x y : Str) : (zipV x y).length = min x.cps.size y.cps.size := by simp [zipV]
def tListZip (ta : TA) : TE := fun σ H Q => ta σ H fun vs H1 => ∃ x y : Str, vs = [.str x, .str y] ∧ x.length ≤ sizeLine ∧
  ∀ (H' : Hp) (p : Addr) (ts : List Addr), (∀ b o, H1 b = some o → H' b = some o) → H1 p = none → (∀ t ∈ ts, H1 t = none) → p ∉ ts → H' p = some (.lst (ts.map V.ref)) → Paired (fun (t : Addr) (q : V × V) => H' t = some (.tup [q.1, q.2])) ts (zipV x y) → Q (.ref p) H'
section
variable {X : Cx} {e e2 : Expr} {ta : TA} {p pz apos cpos pos : Pos}
theorem zips_laid {pins : List (Addr × Obj)} {σ : L2.St} {H : Hp} {s : Shared} {h' : Heap} {tk : Nat} {lo : Addr} {ps : List (V × V)} {acc : Array Value} {c : Nat} {as : List Addr} (I : Inv X pins σ H s) (hlo : s.heap.objs.size ≤ lo) (hz : ps.length ≤ sizeLine)
    (hk : ∀ b o, s.heap.get? b = some o → h'.get? b = some o) (hS : h'.get? lo = some { cls := .type "list", dict := none, data := .seq acc c, slots := #[] }) (hl : as.length = ps.length) (rise : as.Pairwise (· < ·)) (above : ∀ a ∈ as, lo < a)
    (prs : ∀ (j : Nat) (a : Addr) (q : V × V), as[j]? = some a → ps[j]? = some q → ∃ x1 x2, RelV q.1 x1 ∧ RelV q.2 x2 ∧ IsTupOf2 h' a x1 x2) (hacc : acc.toList = as.map Value.ref) :
    ∃ H' : Hp, (∀ b o, H b = some o → H' b = some o) ∧ H lo = none ∧ (∀ t ∈ as, H t = none) ∧ lo ∉ as ∧ H' lo = some (.lst (as.map V.ref)) ∧ Paired (fun (t : Addr) (q : V × V) => H' t = some (.tup [q.1, q.2])) as ps ∧ Inv X pins σ H' { s with heap := h', toks := tk } := by
  have hSn : lo ∉ as := fun z => Nat.lt_irrefl _ (above _ z)
  have nd : as.Nodup := List.Pairwise.imp (fun {a b} (h : a < b) => Nat.ne_of_lt h) rise
  have new : ∀ t ∈ as, H t = none := fun t ht => I.hok.fresh (Nat.le_trans hlo (Nat.le_of_lt (above t ht)))
  have newS : H lo = none := I.hok.fresh hlo
  have atP := putP_at as ps (upd H lo (.lst (as.map V.ref))) hl nd
  have off : ∀ b, b ∉ as → b ≠ lo → putP (upd H lo (.lst (as.map V.ref))) as ps b = H b := fun b h1 h2 => by rw [putP_off as ps _ h1, upd_ne h2]
  have low : ∀ b o, s.heap.get? b = some o → b ∉ as ∧ b ≠ lo := fun b o e => ⟨fun z => absurd (Heap.lt_size e) (Nat.not_lt.mpr (Nat.le_trans hlo (Nat.le_of_lt (above b z)))), Nat.ne_of_lt (Nat.lt_of_lt_of_le (Heap.lt_size e) hlo)⟩
  have kp : ∀ b u, H b = some u → (putP (upd H lo (.lst (as.map V.ref))) as ps) b = some u := fun b u e => by
    rw [off b (fun z => by rw [new b z] at e; cases e) (fun z => by rw [z, newS] at e; cases e)]
    exact e
  have eS : putP (upd H lo (.lst (as.map V.ref))) as ps lo = some (.lst (as.map V.ref)) := by rw [putP_off as ps _ hSn, upd_same]
  refine ⟨putP (upd H lo (.lst (as.map V.ref))) as ps, kp, newS, new, hSn, eS, atP, ?_⟩
  refine I.call' (ch := []) rfl ⟨fun b o q _ _ _ => hk b o q, fun b o q _ _ _ => ⟨o.slots, hk b o q⟩, fun b o q n _ => ?_, fun b o q _ => ⟨o, hk b o q⟩, fun b xs q => kp b _ q, fun b o u q => kp b _ q, fun b ps q => ⟨#[], by rw [kp b _ q]; simp⟩⟩ (fun b u q => ?_) I.bare fun b z => by simp at z
  · obtain ⟨z1, z2⟩ := low b o q
    rw [off b z1 z2]
    exact n
  · by_cases hb : b ∈ as
    · obtain ⟨j, pk, e1, e2, e3⟩ := LiI.paired_ix atP hb
      rw [e3] at q
      cases q
      obtain ⟨x1, x2, r1, r2, f3⟩ := prs j b pk e1 e2
      exact ⟨by show 2 ≤ sizeLine; decide, [x1, x2], .cons r1 (.cons r2 .nil), ⟨_, f3, rfl, _, rfl⟩⟩
    · by_cases hb2 : b = lo
      · rw [hb2] at q ⊢
        rw [eS] at q
        cases q
        refine ⟨by rw [List.length_map]; omega, acc.toList, c, by rw [hacc]; exact LiI.vals_refs as, ?_⟩
        rw [Array.toArray_toList]
        exact hS
      · rw [off b hb hb2] at q
        exact (I.hok b u q).stay (fun d v _ y => hk d v y) (fun d y => kp d _ y) fun d xs y => kp d _ y
/-- list(zip(e, e2)) of two texts -/
theorem pe_listZip (hc : X.calm = true) (ha : PA X [e, e2] ta) (hg : Gl X "list") (hm : X.mg "list" = none) (hg2 : Gl X "zip") (hm2 : X.mg "zip" = none)
    (hs : starEach [.Call (.Name "zip" pz) [e, e2] [] cpos] X.env = (false, eval (.Call (.Name "zip" pz) [e, e2] [] cpos) X.env) :: starEach [] X.env := by rfl)
    (hs2 : starEach [e, e2] X.env = (false, eval e X.env) :: starEach [e2] X.env := by rfl) (hpl : (backTo cpos (starEach [e2] X.env)).any (·.1) = false := by rfl) :
    PE X (.Call (.Name "list" p) [.Call (.Name "zip" pz) [e, e2] [] cpos] [] pos) (tListZip ta) := by
  refine ⟨fun pins s σ H Q I hq => ?_⟩
  refine wpAny_Call_Name_kw (ld_blt I hg hm boot_list ?_)
  refine PyProof.Rows.callWith_type1 ?_ hs rfl
  rw [hs]
  show wpAny _ _ (spliced ((false, eval (.Call (.Name "zip" pz) [e, e2] [] cpos) X.env) :: backTo pos (starEach [] X.env))) _ _ s
  refine Calls.spliced_cons ?_
  refine Call_ (ld_blt I hg2 hm2 PyProof.Rows.boot_zip (PyProof.Rows.callWith_type1 (thn (ha.run cpos pins s σ H _ I hq) fun us s1 ⟨vs, H1, I1, r1, q1⟩ => ?_) hs2 hpl))
  obtain ⟨x, y, ex, hx, q1⟩ := q1
  subst ex
  cases r1 with
  | cons r rr =>
    cases rr with
    | cons r' rr =>
      cases rr
      obtain ⟨t, rfl⟩ := r
      obtain ⟨u, rfl⟩ := r'
      have hh : X.A.in1.in1.in1.handled = none := I1.ok.hd hc
      refine zip_begins2 (begins_text x t) (begins_text y u) trivial trivial fun h' hz hTI hTO h1 h2 hsz hk => ?_
      refine Calls.spliced_nil ?_
      have e1 : h'.IsStrIter s1.heap.objs.size (strIterType x) x t 0 := ⟨_, h1, rfl, rfl⟩
      have e2' : h'.IsStrIter (s1.heap.objs.size + 1) (strIterType y) y u 0 := ⟨_, h2, rfl, rfl⟩
      have hx' : min x.cps.size y.cps.size ≤ sizeLine := Nat.le_trans (Nat.min_le_left _ _) hx
      have low5 : s1.heap.objs.size + 4 < h'.objs.size ∧ s1.heap.objs.size + 2 < h'.objs.size ∧ s1.heap.objs.size + 3 < h'.objs.size ∧ s1.heap.objs.size < h'.objs.size ∧ s1.heap.objs.size + 1 < h'.objs.size := by
        rw [hsz]
        exact ⟨Nat.add_lt_add_left (by decide) _, Nat.add_lt_add_left (by decide) _, Nat.add_lt_add_left (by decide) _, Nat.lt_add_of_pos_right (by decide), Nat.add_lt_add_left (by decide) _⟩
      have lowA : ∀ b ∈ ([s1.heap.objs.size] : List Addr), b < h'.objs.size := fun b hb => by
        rw [List.mem_singleton.mp hb]
        exact low5.2.2.2.1
      have lowB : ∀ b ∈ ([s1.heap.objs.size + 1] : List Addr), b < h'.objs.size := fun b hb => by
        rw [List.mem_singleton.mp hb]
        exact low5.2.2.2.2
      refine zl_call (s := { s1 with heap := h' }) (A := X.A) (zip_sep2 (fp1 := []) (fp2 := []) (by simp) (by simp)) (Draws.text hh s1.heap.objs.size x t) (Draws.text hh (s1.heap.objs.size + 1) y u) ⟨hTI, e1, e2', hz, _, _, hTO⟩
        low5 lowA lowB hx'
        fun h'' tk acc c as hk2 hS hl hG hacc => ?_
      obtain ⟨H', k1, k2, k3, k4, k5, k6, J⟩ := zips_laid (tk := tk) (lo := h'.objs.size) (ps := zipV x y) I1 (by rw [hsz]; exact Nat.le_add_right _ _) (by rw [zipV_len]; exact hx') (fun b o e => hk2 b o
          (Nat.ne_of_lt (Nat.lt_of_lt_of_le (Heap.lt_size e) (Nat.le_add_right _ _))) (Nat.ne_of_lt (Nat.lt_of_lt_of_le (Heap.lt_size e) (Nat.le_add_right _ _))) (Nat.ne_of_lt (Heap.lt_size e)) (Nat.ne_of_lt (Nat.lt_of_lt_of_le (Heap.lt_size e) (Nat.le_add_right _ _))) (hk b o e)) hS (by rw [zipV_len]; exact hl) hG.rise hG.above
        (fun j a q ea eq => by
          obtain ⟨x1, x2, ⟨c1, t1, ec1, rfl⟩, ⟨c2, t2, ec2, rfl⟩, f3⟩ := hG.pairs j a ea
          have ez : (zipV x y)[j]? = some (sg c1, sg c2) := by
            simp [zipV, List.zip, List.getElem?_zipWith, ec1, ec2]
          rw [ez] at eq
          cases eq
          exact ⟨_, _, ⟨t1, rfl⟩, ⟨t2, rfl⟩, f3⟩) hacc
      exact ⟨.ref _, H', J, rfl, q1 H' _ as k1 k2 k3 k4 k5 k6⟩
end
end FYR

set_option Elab.async false
set_option linter.all false
set_option maxRecDepth 100000
set_option maxHeartbeats 4000000
/-! defs whose promise leans on «no repr is under way» (A.guards = some []): FnG; repr of data -/
namespace FYR
open PySem PySem.Spec PyProof.Rows L2
structure FnG (P : Program) (w : World) (K : PySem.W.Frag) (mg : Str → Option Value) (base : Heap) (k : Nat) (f : Addr) (fd : FuncData) (ps : List Str) (sp : Sp) : Prop where
  len : ∀ vs H Q E, sp vs H Q E → vs.length = ps.length
  run : ∀ (A : Around) (outer : List Env) (s : Shared) (H : Hp) (args : Args) (us : List Value) (vs : List V) (Q : VK) (E : XK), A.guards = some [] → Room k A → Env0 P w K mg base A outer s H → BindsTo s fd args (ps.zip us) → Vals vs us → sp vs H Q E →
    codeAny (model P w) A (.call (.ref f) args) (CR CX0 outer P w H s Q E) s
section
variable {P : Program} {w : World} {K : PySem.W.Frag} {mg : Str → Option Value} {base : Heap}
theorem fnG_of {x qual : Str} {st : Stmt} {f : Addr} {fd : FuncData} {N ps : List Str} {k : Nat} {sp : Sp} (F : Fun K x qual st f fd) (S : FnScope N ps (defScope st)) (len : ∀ vs H Q E, sp vs H Q E → vs.length = ps.length)
    (hbody : ∀ (cdv : Value) (A : Around) (outer : List Env) (s : Shared) (H : Hp) (vs : List V) (Q : VK) (E : XK), A.guards = some [] → Room k (A.deeper (envOfC qual (defScope st) s.heap.objs.size f cdv)) → sp vs H Q E →
      ∃ t, PSs (cxOf CX0 P w K mg base N qual (defScope st) f cdv A outer s H E).nox (defBody st) t ∧ t { nx := fun _ H' => Q .non H', rt := Q } (start N vs) H) : FnG P w K mg base (k + 1) f fd ps sp := by
  obtain ⟨oc, od, kV, doc, pm, an, cdv, ct, osl, rfl, lk, hcd⟩ := F.ex
  refine ⟨len, fun A outer s H args us vs Q E hgd hr e0 hb r hsp => ?_⟩
  have hl := len _ _ _ _ hsp
  have kin : K.In s.heap := e0.mod.kin.keeps fun b o e => (e0.bs b o e).1
  have nolim : s.heap.NoLimit := e0.mod.nolimit.keeps fun b o e => (e0.bs b o e).1
  have kinds : ∀ y ∈ ps.zip us, (defScope st).names.lookup y.1 = some .local ∨ ((defScope st).names.lookup y.1 = some .cell ∧ ((cellsFrom (s.heap.objs.size + 1) (defScope st).names []).lookup y.1).isSome = true) := by
    rintro ⟨n, v⟩ hy
    exact (S.par n (List.of_mem_zip hy).1).imp id fun q => ⟨q, PySem.W.cellsFrom_some _ _ _ (.inl q)⟩
  refine codeAny_call_function hr.depth (kin _ _ lk) rfl S.co S.gen rfl (PySem.W.codeRec_of kin hcd) (hb _ _ _ _ ?_)
  refine wpAny_newFunctionEnv_cells S.kind kinds fun env he s1 x => ?_
  subst he
  refine ⟨nolim.keeps x.toInCall.keep, codeAny_func ?_⟩
  obtain ⟨t, ht, hq⟩ := hbody cdv A outer s H vs Q E hgd (hr.deeper _) hsp
  have I : Inv (cxOf CX0 P w K mg base N qual (defScope st) f cdv A outer s H E) [] (start N vs) H s1 := inv_start S hr.hd e0 hl r x
  refine wpAny_mono (ht.nox.run [] s1 (start N vs) H _ I hq) (fun fl s' hs => ?_) fun e s' hs => hs
  cases fl with
  | ret u =>
    obtain ⟨v, σ', H', J, rv, q⟩ := hs
    exact ⟨v, H', J.os, J.bare, J.base, J.hok, rv, q⟩
  | next =>
    obtain ⟨σ', H', J, q⟩ := hs
    exact ⟨.non, H', J.os, J.bare, J.base, J.hok, rfl, q⟩
  | brk =>
    obtain ⟨_, _, _, q⟩ := hs
    exact q.elim
  | cont =>
    obtain ⟨_, _, _, q⟩ := hs
    exact q.elim
end
section
variable {X : Cx} {k : Nat} {f : Addr} {fd : FuncData} {ps : List Str} {sp : Sp} {x : Str} {p pos : Pos} {e : Expr} {es : List Expr} {t : TA}
theorem pe_callG (F : FnG X.prog X.w X.K X.mg X.base k f fd ps sp) (hgd : X.A.guards = some []) (hr : Room k X.A) (hg : Gl X x) (hm : X.mg x = some (.ref f)) (hk : PySem.W.keepIn X.K (.ref f) = true) (hb : Binds X.K fd ps [])
    (ha : PA X (e :: es) t) (hdb : (x == ("__debug__" : Str)) = false := by decide) (he : starEach (e :: es) X.env = (false, eval e X.env) :: starEach es X.env := by rfl) (hpl : (backTo pos (starEach es X.env)).any (·.1) = false := by rfl) :
    PE X (.Call (.Name x p) (e :: es) [] pos) (tCall sp [] E0 t) := by
  refine ⟨fun pins s σ H Q I h => ?_⟩
  refine wpAny_Call_Name_kw (ld_glob I hg hm ?_ hdb)
  refine PySem.W.callWith_K (h₀ := X.base) I.ok.mod.kin hk (thn (ha.run pos pins s σ H _ I h) fun us s1 ⟨vs, H1, I1, r, q⟩ => ⟨I1.kIn, ?_⟩) he hpl
  simp only [List.append_nil] at q
  show wpAny (model X.prog X.w) X.A (call (.ref f) us) (EP X pins σ Q) X.xe s1
  have hl : us.length = ps.length := by rw [← r.length]; exact F.len _ _ _ _ q
  refine wpAny_call (codeAny_mono (F.run X.A X.stack s1 H1 ⟨us, []⟩ us vs Q E0 hgd hr I1.env0 (by have z := hb s1 us I1.kIn (by rw [List.append_nil]; exact hl); rw [List.append_nil] at z; exact z) r q) fun r s' hq => ?_)
  cases r with
  | error e => exact False.elim hq
  | ok fl =>
    cases fl with
    | ret u => exact I1.after hq
    | next => exact False.elim hq
    | brk => exact False.elim hq
    | cont => exact False.elim hq

/-! ### repr of data -/
def rReprD (K : PySem.W.Frag) : List V → Hp → VK → Prop := fun xs H Q => ∃ (v : V) (d : PyData), xs = [v] ∧ Dp K H v d ∧ d.showable = true ∧ d.hasDict = false ∧ d.depth ≤ 30 ∧ d.shown.length ≤ sizeLine ∧ Q (.str d.shown) H
theorem call_reprD (hgd : X.A.guards = some []) (hr : Room k X.A) : CallR X (.builtin "repr") (rReprD X.K) := by
  intro pins s σ H xs us Q I rv h
  obtain ⟨v, d, rfl, hd, h1, h2, h3, h4, q⟩ := h
  obtain ⟨u, rfl, ru⟩ := rv.one
  have hu := hr.units
  have big : ∀ a, v = .ref a → wpAny (model X.prog X.w) X.A (call (.builtin "repr") [u]) (EP X pins σ Q) X.xe s := by
    rintro a rfl
    obtain ⟨as, rd⟩ := Dp.reads I d _ u hd ru
    cases ru
    exact repr_of_reads' rd h1 (PyData.noDict_hsm h2) hgd (by omega) (fun _ _ e => e) (fun h' t tk hk => ⟨.str _, H, I.kept (t' := tk) hk, ⟨_, rfl⟩, q⟩) h4
  cases hd with
  | non =>
    cases ru
    rw [PyData.shown_none] at q
    exact PySem.P.repr_of_none ⟨.str _, H, I.tok _, ⟨_, rfl⟩, q⟩
  | bl b =>
    cases ru
    rw [PyData.shown_bool] at q
    refine PySem.P.repr_of_bool ⟨.str _, H, I.tok _, ⟨_, rfl⟩, ?_⟩
    cases b <;> exact q
  | int i =>
    obtain ⟨t, rfl⟩ := ru
    rw [PyData.shown_int] at q
    exact PySem.P.repr_of_int (by simpa [PyData.showable] using h1) ⟨.str _, H, I.tok _, ⟨_, rfl⟩, q⟩
  | str y =>
    obtain ⟨t, rfl⟩ := ru
    rw [PyData.shown_str] at q h4
    exact PySem.P.repr_of_str ⟨.str _, H, I.tok _, ⟨_, rfl⟩, q⟩ h4
  | lst _ _ => exact big _ rfl
  | tup _ _ => exact big _ rfl
end
/-! ### the end of a law row over FnG -/
theorem law_callG {P : Program} {w : World} {K : PySem.W.Frag} {mg mb : Str → Option Value} {k : Nat} {fa a : Addr} {fd : FuncData} {x : Str} {sp : Sp} {s₁ : Shared} {vs : List Value} {ns : List Int}
    (KX : K.In s₁.heap) (hns : s₁.heap.Ns mainGlobals mg) (hb : s₁.heap.Ns builtinsNs mb) (hbb : ∀ x : Str, x ≠ "__name__" → mb x = bootBuiltins x) (hlim : s₁.heap.NoLimit) (hg : s₁.gens = #[])
    (ha : s₁.heap.get? a = some { cls := .type "list", data := .seq vs.toArray }) (hi : IntsAre vs ns) (hl : ns.length ≤ sizeLine) (hr : Room k callerA)
    (F : ∀ base : Heap, K.In base → base.Ns mainGlobals mg → FnG P w K mg base k fa fd [x] sp) (hbind : ∀ (s : Shared) (u : Value), BindsTo s fd ⟨[u], []⟩ [(x, u)])
    (hsp : ∀ H : Hp, Only H → SqL K H a (ns.map V.int) → sp [.ref a] H (fun v _ => v = .bl true) fun _ _ _ => False) :
    codeAny (model P w) callerA (.call (.ref fa) ⟨[.ref a], []⟩) (fun r s' => r = .ok (.ret (.bool true)) ∧ OldK s₁.heap s'.heap ∧ s'.os = s₁.os ∧ AllBare s'.gens) s₁ := by
  have rv := vals_ints hi
  have core : ∀ H : Hp, Only H → SqL K H a (ns.map V.int) → HOk P w H s₁.heap → (∀ b, H b ≠ none → b = a ∧ K.lookup a = none) →
      codeAny (model P w) callerA (.call (.ref fa) ⟨[.ref a], []⟩) (fun r s' => r = .ok (.ret (.bool true)) ∧ OldK s₁.heap s'.heap ∧ s'.os = s₁.os ∧ AllBare s'.gens) s₁ := by
    intro H hO hS hok hA
    have free : ∀ {b : Addr}, (∀ q : b = a, K.lookup a = none → False) → H b = none := fun {b} z => by
      cases q : H b with
      | none => rfl
      | some u =>
        obtain ⟨e1, e2⟩ := hA b (by rw [q]; simp)
        exact (z e1 e2).elim
    have nsK : ∀ {b : Addr} {m : Str → Option Value}, s₁.heap.Ns b m → (hidT s₁.heap H).Ns b m := fun {b m} ⟨o, es, ep, e, d, r⟩ =>
      ⟨o, es, ep, hidT_get e (free fun q _ => by rw [q, ha] at e; cases e; cases d), d, r⟩
    have hKb : K.In (hidT s₁.heap H) := fun b o e => hidT_get (KX b o e) (free fun q z => by rw [q, z] at e; cases e)
    have hM : Mod K mg (hidT s₁.heap H) := ⟨hKb, nsK hns, ⟨mb, nsK hb, hbb⟩, let ⟨mc, h1, h2⟩ := hlim; ⟨mc, nsK h1, h2⟩⟩
    have e0 : Env0 P w K mg (hidT s₁.heap H) callerA [] s₁ H := ⟨rfl, hM, fun b o e => of_hidT e, Nat.le_of_eq (hidT_size _ _), trivial, fun b hb => absurd (show b ∈ ([] : List Addr) from hb) (by simp), hok, .of_eq hg⟩
    refine codeAny_mono ((F _ hKb (nsK hns)).run callerA [] s₁ H ⟨[.ref a], []⟩ [.ref a] [.ref a] _ _ rfl hr e0 (hbind s₁ (.ref a)) (.cons rfl .nil) (hsp H hO hS)) fun r s' h => ?_
    cases r with
    | error e => exact False.elim h
    | ok fl =>
      cases fl with
      | next => exact False.elim h
      | brk => exact False.elim h
      | cont => exact False.elim h
      | ret u =>
        obtain ⟨v, H', os, bare, un, hok', r', q⟩ := h
        cases (show v = .bl true from q)
        cases (show u = Value.bool true from r')
        refine ⟨rfl, OldK.of_keep fun b o e => ?_, os, bare⟩
        rcases hO b with z | ⟨ob, xs, z⟩
        · exact un.keep b o e z (fun y => absurd (show b ∈ ([] : List Addr) from y) (by simp)) (by simp)
        · obtain ⟨e1, _⟩ := hok b _ z
          obtain ⟨e2, _⟩ := hok' b _ (un.frzs b ob _ z)
          rw [e] at e1
          cases e1
          exact e2
  cases hk : K.lookup a with
  | some o =>
    have e := KX a o hk
    rw [ha] at e
    cases e
    exact core (fun _ => none) (fun _ => .inl rfl) (.inr ⟨_, vs.toArray, _, hk, rfl, rfl, rfl, by rw [List.size_toArray, hi.length]; exact hl, by simpa using rv⟩) (fun b u z => nomatch z) fun b z => absurd rfl z
  | none =>
    refine core (fun b => if b = a then some (.frz { cls := .type "list", data := .seq vs.toArray } (.lst (ns.map V.int))) else none) (fun b => ?_) (.inl (.inr ⟨_, if_pos rfl⟩)) (fun b u z => ?_) fun b z => ?_
    · exact (Decidable.em (b = a)).elim (fun hb => .inr ⟨_, _, if_pos hb⟩) fun hb => .inl (if_neg hb)
    · by_cases hb : b = a
      · cases (if_pos hb).symm.trans z
        subst hb
        exact ⟨ha, by rw [List.length_map]; exact hl, vs, _, rv, ha⟩
      · cases (if_neg hb).symm.trans z
    · exact (Decidable.em (b = a)).elim (fun hb => ⟨hb, hk⟩) fun hb => absurd (if_neg hb) z
theorem walkG {l : PySem.W.OpenLaw} {n k : Nat} {q : Program} {loose : List Str} {XP : (Str → Option Value) → Heap → Prop} {YP : World → Heap → Prop} {d : DefRec} {K : Params → PySem.W.Frag} {sp : PySem.W.Frag → Sp} {x : Str}
    (hn : l.most = some n) (hn2 : n ≤ sizeLine) (hdf : d.params.defaults = []) (hr : Room k callerA)
    (hY : ∀ (w : World) (h : Heap), YP w h → (K w.params).In h)
    (F : ∀ (w : World) (mg : Str → Option Value) (fa : Addr) (h : Heap), (K w.params).In h → h.Ns mainGlobals mg → mg d.name = some (.ref fa) →
      ∃ fd : FuncData, (∀ (s : Shared) (u : Value), BindsTo s fd ⟨[u], []⟩ [(x, u)]) ∧
        ∀ base : Heap, (K w.params).In base → base.Ns mainGlobals mg → FnG l.prog w (K w.params) mg base k fa fd [x] (sp (K w.params)))
    (hsp : ∀ (K : PySem.W.Frag) (H : Hp) (a : Addr) (ns : List Int), ns.length ≤ n → Only H → SqL K H a (ns.map V.int) → sp K [.ref a] H (fun v _ => v = .bl true) fun _ _ _ => False) :
    PySem.W.WalkO q loose XP YP l.row.toRowW d [] (fun f vs => PySem.call f vs) := by
  refine Att.attach_call hn hdf fun w s₀ s₁ mg mb fa o pm cd doc a vs ns G Y ho hd hcd hmg hobj hints hlen hg => ?_
  obtain ⟨fd, hb, hF⟩ := F w mg fa _ (hY w _ Y) G.T.g hmg
  exact law_callG (hY w _ Y) G.T.g G.T.b G.T.builtins G.T.nolimit hg hobj hints (Nat.le_trans hlen hn2) hr hF hb fun H hO hS => hsp _ H a ns hlen hO hS
end FYR

set_option Elab.async false
set_option linter.all false
set_option maxRecDepth 100000
set_option maxHeartbeats 4000000
namespace FY
open PySem L2 FYR
def cd (b : Bool) : Nat := if b then 49 else 48
def sgn (b : Bool) : Str := ⟨#[cd b]⟩
def tx (bs : List Bool) : Str := ⟨(bs.map cd).toArray⟩
theorem cd_inj {a b : Bool} (h : cd a = cd b) : a = b := by cases a <;> cases b <;> first | rfl | (exact absurd h (by decide))
theorem tx_inj {a b : List Bool} (h : tx a = tx b) : a = b := by
  have h1 : a.map cd = b.map cd := by
    have := congrArg Str.cps h
    simpa [tx] using this
  exact (List.map_inj_right (fun x y => cd_inj)).mp h1
theorem tx_eq (a b : List Bool) : decide (V.str (tx a) = V.str (tx b)) = decide (a = b) := by
  by_cases h : a = b
  · subst h; simp
  · rw [decide_eq_false h, decide_eq_false]
    intro q
    exact h (tx_inj (V.str.inj q))
theorem sgn_tx (b : Bool) : sgn b = tx [b] := rfl
theorem s0 : ("0" : Str) = sgn false := by decide +kernel
theorem s1 : ("1" : Str) = sgn true := by decide +kernel
theorem se : ("" : Str) = tx [] := by decide +kernel
theorem tx_size (bs : List Bool) : (tx bs).cps.size = bs.length := by simp [tx]
theorem tx_len (bs : List Bool) : (tx bs).length = bs.length := tx_size bs
theorem tx_get (bs : List Bool) (i : Nat) : (tx bs).cps[i]? = (bs[i]?).map cd := by simp [tx]
theorem tx_app (a b : List Bool) : tx a ++ tx b = tx (a ++ b) := by
  show (⟨(tx a).cps ++ (tx b).cps⟩ : Str) = _
  simp [tx]
theorem str_ext {a b : Str} (h : a.cps.toList = b.cps.toList) : a = b := by
  obtain ⟨x⟩ := a
  obtain ⟨y⟩ := b
  exact congrArg Str.mk (Array.toList_inj.mp h)
theorem tx_toList (bs : List Bool) : (tx bs).cps.toList = bs.map cd := by simp [tx]
theorem join_def (sep : Str) (ys : List Str) : Txt.join sep ys = Str.join sep ys := by
  have h := PyProof.Rows.join_closes (sep := sep) (sep' := sep) (ys := ys) rfl
  simpa using h
theorem join_tx : ∀ (ys : List (List Bool)), Txt.join (tx []) (ys.map tx) = tx ys.flatten := by
  intro ys
  rw [join_def]
  induction ys with
  | nil => rfl
  | cons y r ih =>
    cases r with
    | nil =>
      show tx y = tx [y].flatten
      simp
    | cons z r =>
      show tx y ++ tx [] ++ Str.join (tx []) ((z :: r).map tx) = _
      rw [ih, tx_app, tx_app]
      simp
theorem flat_sgn (bs : List Bool) : (bs.map fun b => [b]).flatten = bs := by
  induction bs with
  | nil => rfl
  | cons b r ih => simp [ih]
theorem join_sgn (bs : List Bool) : Txt.join (tx []) (bs.map sgn) = tx bs := by
  have h := join_tx (bs.map fun b => [b])
  rw [flat_sgn, List.map_map] at h
  exact h
theorem cut_tx (bs : List Bool) (lo hi : Option Int) : cutS (tx bs) lo hi = tx ((bs.drop (HT.sIx bs.length 0 lo)).take (HT.sIx bs.length bs.length hi - HT.sIx bs.length 0 lo)) := by
  apply str_ext
  rw [tx_toList]
  unfold cutS
  rw [tx_len, tx_toList]
  simp [List.map_take, List.map_drop]
theorem cut_to (bs : List Bool) (k : Nat) : cutS (tx bs) none (some (k : Int)) = tx (bs.take k) := by
  rw [cut_tx, HT.sIx_none, HT.sIx_nat]
  congr 1
  simp only [List.drop_zero, Nat.sub_zero]
  rw [← List.take_take, List.take_of_length_le (Nat.le_refl _)]
theorem step_tx (bs : List Bool) : stepS (tx bs) (some 1) none 2 = tx (halfL bs) := by
  have e1 : Builtin.Str.strSliceIndices (some 1) none 2 bs.length = (List.range (bs.length / 2)).map fun k => 2 * k + 1 := by
    unfold Builtin.Str.strSliceIndices sliceRange
    simp only [show ((2 : Int) > 0) = True from by simp, if_true]
    have hc : max 0 (min (if (1 : Int) < 0 then 1 + (bs.length : Int) else 1) (bs.length : Int)) = min 1 (bs.length : Int) := by
      rw [if_neg (by decide)]; omega
    rw [hc]
    by_cases h : min (1 : Int) bs.length < bs.length
    · rw [if_pos h]
      have e2 : (((bs.length : Int) - min 1 (bs.length : Int) + 2 - 1) / 2).toNat = bs.length / 2 := by omega
      rw [e2]
      refine List.map_congr_left fun k _ => ?_
      omega
    · rw [if_neg h]
      have e2 : bs.length / 2 = 0 := by omega
      simp [e2]
  unfold stepS
  rw [if_neg (by simp), tx_len, e1]
  apply str_ext
  rw [tx_toList]
  show List.filterMap _ _ = _
  rw [List.filterMap_map]
  clear e1
  have key : ∀ (n : Nat) (l : List Bool), l.length ≤ n → List.filterMap ((fun x => (tx l).cps[x]?) ∘ fun k => 2 * k + 1) (List.range (l.length / 2)) = (halfL l).map cd := by
    intro n
    induction n with
    | zero =>
      intro l hl
      cases l with
      | nil => rfl
      | cons _ _ => simp at hl
    | succ n ih =>
      intro l hl
      match l, hl with
      | [], _ => rfl
      | [x], _ => simp [halfL]
      | x :: y :: r, hl =>
        have e : (x :: y :: r).length / 2 = r.length / 2 + 1 := by simp only [List.length_cons]; omega
        rw [e, List.range_succ_eq_map, List.filterMap_cons]
        have e0 : ((fun i => (tx (x :: y :: r)).cps[i]?) ∘ fun k => 2 * k + 1) 0 = some (cd y) := by
          show (tx (x :: y :: r)).cps[1]? = _
          rw [tx_get]; rfl
        rw [e0]
        show cd y :: _ = cd y :: _
        congr 1
        rw [List.filterMap_map]
        have hr := ih r (by simp only [List.length_cons] at hl; omega)
        rw [← hr]
        congr 1
        funext k
        show (tx (x :: y :: r)).cps[2 * (k + 1) + 1]? = (tx r).cps[2 * k + 1]?
        rw [tx_get, tx_get, show 2 * (k + 1) + 1 = (2 * k + 1) + 1 + 1 by omega]
        rfl
  exact key bs.length bs (Nat.le_refl _)
theorem starts_tx (a b : List Bool) : Txt.startswith (tx a) (tx b) = decide (b <+: a) := by
  unfold Txt.startswith Builtin.Str.subAt
  rw [tx_len, tx_len, Nat.zero_add]
  by_cases h : b <+: a
  · obtain ⟨r, rfl⟩ := h
    rw [decide_eq_true (List.prefix_append b r)]
    simp [tx]
  · rw [decide_eq_false h]
    by_cases hl : b.length ≤ a.length
    · have hn : ((tx a).cps.extract 0 b.length == (tx b).cps) = false := by
        rw [beq_eq_false_iff_ne]
        intro q
        apply h
        have q2 := congrArg Array.toList q
        have q3 : (a.take b.length).map cd = b.map cd := by simpa [tx, List.map_take] using q2
        have q4 := (List.map_inj_right (fun x y => cd_inj)).mp q3
        rw [← q4]
        exact List.take_prefix _ _
      rw [hn]; simp
    · simp [hl]
theorem int_sgn (b : Bool) : PySem.intText? (sgn b) = some (if b then 1 else 0) := by
  cases b <;> decide +kernel
theorem str_bit (b : Bool) : ((toString (if b then (1 : Int) else 0) : String) : Str) = sgn b := by
  cases b <;> decide +kernel
end FY

set_option Elab.async false
set_option linter.all false
set_option maxRecDepth 100000
set_option maxHeartbeats 4000000
namespace FY
open PySem L2 FYR
def W1.s : W1 → Str
  | .no => "not" | .twice => "twice" | .half => "half" | .change => "change" | .count => "count"
def Tm.word : Tm → Str
  | .inn => "in" | .one w _ => w.s | .late _ _ => "late" | .byy _ _ _ _ _ _ => "by" | .keep _ _ => "keep" | .thn _ _ => "then"
/-- what else stands in the tuple ahead of the parts -/
def Tm.extra : Tm → List Str
  | .late b _ => [sgn b] | .byy a b c d _ _ => [tx [a, b, c, d]] | _ => []
def Tm.parts : Tm → List Tm
  | .inn => [] | .one _ t => [t] | .late _ t => [t] | .byy _ _ _ _ t u => [t, u] | .keep t u => [t, u] | .thn t u => [t, u]
def Tm.isIn : Tm → Bool | .inn => true | _ => false
def Tm.data : Tm → PyData
  | .inn => .str "in"
  | .one w t => .tuple [.str w.s, t.data]
  | .late b t => .tuple [.str "late", .str (sgn b), t.data]
  | .byy a b c d t u => .tuple [.str "by", .str (tx [a, b, c, d]), t.data, u.data]
  | .keep t u => .tuple [.str "keep", t.data, u.data]
  | .thn t u => .tuple [.str "then", t.data, u.data]
/-- the value v is the term t -/
def TA (H : Hp) : V → Tm → Prop
  | v, .inn => v = .str "in"
  | v, .one w t => ∃ a x, v = .ref a ∧ H a = some (.tup [.str w.s, x]) ∧ TA H x t
  | v, .late b t => ∃ a x, v = .ref a ∧ H a = some (.tup [.str "late", .str (sgn b), x]) ∧ TA H x t
  | v, .byy a b c d t u => ∃ p x y, v = .ref p ∧ H p = some (.tup [.str "by", .str (tx [a, b, c, d]), x, y]) ∧ TA H x t ∧ TA H y u
  | v, .keep t u => ∃ p x y, v = .ref p ∧ H p = some (.tup [.str "keep", x, y]) ∧ TA H x t ∧ TA H y u
  | v, .thn t u => ∃ p x y, v = .ref p ∧ H p = some (.tup [.str "then", x, y]) ∧ TA H x t ∧ TA H y u
/-- the tuples stay -/
def Tups (H H' : Hp) : Prop := ∀ a xs, H a = some (.tup xs) → H' a = some (.tup xs)
theorem Tups.of {H H' : Hp} (h : Same H H') : Tups H H' := fun a xs e => h a _ e
theorem Tups.refl (H : Hp) : Tups H H := fun _ _ e => e
theorem Tups.trans {H H1 H2 : Hp} (a : Tups H H1) (b : Tups H1 H2) : Tups H H2 := fun x xs e => b x xs (a x xs e)
theorem TA.keep {H H' : Hp} (k : Tups H H') : ∀ {t : Tm} {v : V}, TA H v t → TA H' v t := by
  intro t
  induction t with
  | inn => intro v h; exact h
  | one w t ih => rintro v ⟨a, x, e, h, r⟩; exact ⟨a, x, e, k _ _ h, ih r⟩
  | late b t ih => rintro v ⟨a, x, e, h, r⟩; exact ⟨a, x, e, k _ _ h, ih r⟩
  | byy a b c d t u i1 i2 => rintro v ⟨p, x, y, e, h, r, q⟩; exact ⟨p, x, y, e, k _ _ h, i1 r, i2 q⟩
  | keep t u i1 i2 => rintro v ⟨p, x, y, e, h, r, q⟩; exact ⟨p, x, y, e, k _ _ h, i1 r, i2 q⟩
  | thn t u i1 i2 => rintro v ⟨p, x, y, e, h, r, q⟩; exact ⟨p, x, y, e, k _ _ h, i1 r, i2 q⟩
/-- a node that is no "in", whichever -/
theorem TA.node {H : Hp} {t : Tm} {v : V} (h : TA H v t) (hn : t.isIn = false) : ∃ a ws, v = .ref a ∧ H a = some (.tup (.str t.word :: (t.extra.map V.str ++ ws))) ∧ Paired (TA H) ws t.parts := by
  cases t with
  | inn => cases hn
  | one w t => obtain ⟨a, x, e, h, r⟩ := h; exact ⟨a, [x], e, h, .cons r .nil⟩
  | late b t => obtain ⟨a, x, e, h, r⟩ := h; exact ⟨a, [x], e, h, .cons r .nil⟩
  | byy a b c d t u => obtain ⟨p, x, y, e, h, r, q⟩ := h; exact ⟨p, [x, y], e, h, .cons r (.cons q .nil)⟩
  | keep t u => obtain ⟨p, x, y, e, h, r, q⟩ := h; exact ⟨p, [x, y], e, h, .cons r (.cons q .nil)⟩
  | thn t u => obtain ⟨p, x, y, e, h, r, q⟩ := h; exact ⟨p, [x, y], e, h, .cons r (.cons q .nil)⟩
theorem TA.dp {K : PySem.W.Frag} {H : Hp} : ∀ {t : Tm} {v : V}, TA H v t → Dp K H v t.data := by
  intro t
  induction t with
  | inn => rintro v rfl; exact .str _
  | one w t ih => rintro v ⟨a, x, rfl, h, r⟩; exact .tup (SqT.of h) (.cons (.str _) (.cons (ih r) .nil))
  | late b t ih => rintro v ⟨a, x, rfl, h, r⟩; exact .tup (SqT.of h) (.cons (.str _) (.cons (.str _) (.cons (ih r) .nil)))
  | byy a b c d t u i1 i2 => rintro v ⟨p, x, y, rfl, h, r, q⟩; exact .tup (SqT.of h) (.cons (.str _) (.cons (.str _) (.cons (i1 r) (.cons (i2 q) .nil))))
  | keep t u i1 i2 => rintro v ⟨p, x, y, rfl, h, r, q⟩; exact .tup (SqT.of h) (.cons (.str _) (.cons (i1 r) (.cons (i2 q) .nil)))
  | thn t u i1 i2 => rintro v ⟨p, x, y, rfl, h, r, q⟩; exact .tup (SqT.of h) (.cons (.str _) (.cons (i1 r) (.cons (i2 q) .nil)))
theorem sgn_ok (b : Bool) : PyData.strOk (sgn b) = true := by cases b <;> decide +kernel
theorem tab_ok (a b c d : Bool) : PyData.strOk (tx [a, b, c, d]) = true := by cases a <;> cases b <;> cases c <;> cases d <;> decide +kernel
theorem w1_ok (w : W1) : PyData.strOk w.s = true := by cases w <;> decide +kernel
theorem lay_tm (t : Tm) : t.data.canLay0 = true := by
  induction t with
  | inn => decide +kernel
  | one w t ih => simp [Tm.data, PyData.canLay0, PyData.canLayAll0, ih, w1_ok]
  | late b t ih => simp [Tm.data, PyData.canLay0, PyData.canLayAll0, ih, sgn_ok]; decide +kernel
  | byy a b c d t u i1 i2 => simp [Tm.data, PyData.canLay0, PyData.canLayAll0, i1, i2, tab_ok]; decide +kernel
  | keep t u i1 i2 => simp [Tm.data, PyData.canLay0, PyData.canLayAll0, i1, i2]; decide +kernel
  | thn t u i1 i2 => simp [Tm.data, PyData.canLay0, PyData.canLayAll0, i1, i2]; decide +kernel
theorem depth_tm (t : Tm) : t.data.depth ≤ t.nodes := by
  induction t with
  | inn => simp [Tm.data, PyData.depth]
  | one w t ih => simp [Tm.data, PyData.depth, PyData.depthAll, Tm.nodes]; omega
  | late b t ih => simp [Tm.data, PyData.depth, PyData.depthAll, Tm.nodes]; omega
  | byy a b c d t u i1 i2 => simp [Tm.data, PyData.depth, PyData.depthAll, Tm.nodes]; omega
  | keep t u i1 i2 => simp [Tm.data, PyData.depth, PyData.depthAll, Tm.nodes]; omega
  | thn t u i1 i2 => simp [Tm.data, PyData.depth, PyData.depthAll, Tm.nodes]; omega
theorem shp_tm {t : Tm} (h : t.nodes ≤ 40) : SeqAt.shaped t.data = true := by
  unfold SeqAt.shaped
  have := depth_tm t
  simp [lay_tm]
  omega
theorem eqv_in (t : Tm) : PyData.eqv t.data (.str "in") = t.isIn := by
  cases t <;> simp [Tm.data, PyData.eqv, Tm.isIn]
theorem shp_in : SeqAt.shaped (.str "in") = true := by decide +kernel
theorem same_new {H : Hp} {p : Addr} (h : H p = none) (o : HO) : Same H (upd H p o) := fun b u q => by rw [upd_ne (ne_of_none q h)]; exact q
theorem small5 {n : Nat} (h : n ≤ 100000) : n ≤ sizeLine := Nat.le_trans h (by decide)
theorem paired_keep {H H' : Hp} (k : Tups H H') : ∀ {ws : List V} {ts : List Tm}, Paired (TA H) ws ts → Paired (TA H') ws ts
  | _, _, .nil => .nil
  | _, _, .cons r q => .cons (r.keep k) (paired_keep k q)
theorem show_tm (t : Tm) : t.data.showable = true ∧ t.data.hasDict = false := by
  induction t with
  | inn => exact ⟨rfl, rfl⟩
  | one w t ih => simp [Tm.data, PyData.showable, PyData.showableAll, PyData.hasDict, PyData.hasDictAll, ih]
  | late b t ih => simp [Tm.data, PyData.showable, PyData.showableAll, PyData.hasDict, PyData.hasDictAll, ih]
  | byy a b c d t u i1 i2 => simp [Tm.data, PyData.showable, PyData.showableAll, PyData.hasDict, PyData.hasDictAll, i1, i2]
  | keep t u i1 i2 => simp [Tm.data, PyData.showable, PyData.showableAll, PyData.hasDict, PyData.hasDictAll, i1, i2]
  | thn t u i1 i2 => simp [Tm.data, PyData.showable, PyData.showableAll, PyData.hasDict, PyData.hasDictAll, i1, i2]
def op1 : Tm → List Bool → List Bool
  | .one w _, f => oneL w f
  | .late b _, f => lateL b f
  | _, f => f
def op2 : Tm → List Bool → List Bool → List Bool
  | .byy a b c d _ _, f, g => byL a b c d f g
  | .keep _ _, f, g => keepL f g
  | _, f, _ => f
end FY

set_option Elab.async false
set_option linter.all false
set_option maxRecDepth 100000
set_option maxHeartbeats 4000000
namespace FY
open PySem L2 FYR
def put : Tm → Tm → Tm
  | .inn, o => o
  | .one w t, o => .one w (put t o)
  | .late b t, o => .late b (put t o)
  | .byy a b c d t u, o => .byy a b c d (put t o) (put u o)
  | .keep t u, o => .keep (put t o) (put u o)
  | .thn t u, o => .thn (put t o) u
def plain : Tm → Tm
  | .inn => .inn
  | .one w t => .one w (plain t)
  | .late b t => .late b (plain t)
  | .byy a b c d t u => .byy a b c d (plain t) (plain u)
  | .keep t u => .keep (plain t) (plain u)
  | .thn t u => put (plain u) (plain t)
def Tm.dep : Tm → Nat
  | .inn => 1
  | .one _ t => t.dep + 1
  | .late _ t => t.dep + 1
  | .byy _ _ _ _ t u => max t.dep u.dep + 1
  | .keep t u => max t.dep u.dep + 1
  | .thn t u => max t.dep u.dep + 1
def noThn : Tm → Bool
  | .inn => true
  | .one _ t => noThn t
  | .late _ t => noThn t
  | .byy _ _ _ _ t u => noThn t && noThn u
  | .keep t u => noThn t && noThn u
  | .thn _ _ => false
theorem flow_put : ∀ (t o : Tm) (s : List Bool), flow (put t o) s = flow t (flow o s) := by
  intro t
  induction t with
  | inn => intro o s; rfl
  | one w t ih => intro o s; simp [put, flow, ih]
  | late b t ih => intro o s; simp [put, flow, ih]
  | byy a b c d t u i1 i2 => intro o s; simp [put, flow, i1, i2]
  | keep t u i1 i2 => intro o s; simp [put, flow, i1, i2]
  | thn t u i1 i2 => intro o s; simp [put, flow, i1]
theorem flow_plain : ∀ (t : Tm) (s : List Bool), flow (plain t) s = flow t s := by
  intro t
  induction t with
  | inn => intro s; rfl
  | one w t ih => intro s; simp [plain, flow, ih]
  | late b t ih => intro s; simp [plain, flow, ih]
  | byy a b c d t u i1 i2 => intro s; simp [plain, flow, i1, i2]
  | keep t u i1 i2 => intro s; simp [plain, flow, i1, i2]
  | thn t u i1 i2 => intro s; simp [plain, flow, flow_put, i1, i2]
theorem put_inn : ∀ t : Tm, put t .inn = t := by
  intro t
  induction t <;> simp_all [put]
theorem noThn_put : ∀ t o : Tm, noThn t = true → noThn o = true → noThn (put t o) = true := by
  intro t
  induction t <;> simp_all [put, noThn]
theorem noThn_plain : ∀ t : Tm, noThn (plain t) = true := by
  intro t
  induction t with
  | thn t u i1 i2 => exact noThn_put _ _ i2 i1
  | _ => simp_all [plain, noThn]
theorem plain_of : ∀ t : Tm, noThn t = true → plain t = t := by
  intro t
  induction t <;> simp_all [plain, noThn]
theorem plain_plain (t : Tm) : plain (plain t) = plain t := plain_of _ (noThn_plain t)
theorem Tm.dep_le (t : Tm) : t.dep ≤ t.nodes := by
  induction t with
  | inn => simp [Tm.dep, Tm.nodes]
  | one w t ih => simp [Tm.dep, Tm.nodes]; omega
  | late b t ih => simp [Tm.dep, Tm.nodes]; omega
  | byy a b c d t u i1 i2 => simp [Tm.dep, Tm.nodes]; omega
  | keep t u i1 i2 => simp [Tm.dep, Tm.nodes]; omega
  | thn t u i1 i2 => simp [Tm.dep, Tm.nodes]; omega
theorem Tm.dep_pos (t : Tm) : 1 ≤ t.dep := by cases t <;> simp [Tm.dep]
theorem dep_put (o : Tm) : ∀ t : Tm, (put t o).dep ≤ t.dep + o.dep := by
  intro t
  induction t with
  | inn => simp [put, Tm.dep]
  | one w t ih => simp [put, Tm.dep]; omega
  | late b t ih => simp [put, Tm.dep]; omega
  | byy a b c d t u i1 i2 => simp [put, Tm.dep]; omega
  | keep t u i1 i2 => simp [put, Tm.dep]; omega
  | thn t u i1 i2 => simp [put, Tm.dep]; omega
theorem dep_plain : ∀ t : Tm, (plain t).dep ≤ t.nodes := by
  intro t
  induction t with
  | inn => simp [plain, Tm.dep, Tm.nodes]
  | one w t ih => simp [plain, Tm.dep, Tm.nodes]; omega
  | late b t ih => simp [plain, Tm.dep, Tm.nodes]; omega
  | byy a b c d t u i1 i2 => simp [plain, Tm.dep, Tm.nodes]; omega
  | keep t u i1 i2 => simp [plain, Tm.dep, Tm.nodes]; omega
  | thn t u i1 i2 => have := dep_put (plain t) (plain u); simp [plain, Tm.nodes]; omega
theorem depth_dep (t : Tm) : t.data.depth ≤ t.dep := by
  induction t with
  | inn => simp [Tm.data, PyData.depth]
  | one w t ih => simp [Tm.data, PyData.depth, PyData.depthAll, Tm.dep]; omega
  | late b t ih => simp [Tm.data, PyData.depth, PyData.depthAll, Tm.dep]; omega
  | byy a b c d t u i1 i2 => simp [Tm.data, PyData.depth, PyData.depthAll, Tm.dep]; omega
  | keep t u i1 i2 => simp [Tm.data, PyData.depth, PyData.depthAll, Tm.dep]; omega
  | thn t u i1 i2 => simp [Tm.data, PyData.depth, PyData.depthAll, Tm.dep]; omega
theorem shp_dep {t : Tm} (h : t.dep ≤ 60) : SeqAt.shaped t.data = true := by
  unfold SeqAt.shaped
  have := depth_dep t
  simp [lay_tm]
  omega
theorem parts_dep {t u : Tm} (h : u ∈ t.parts) : u.dep + 1 ≤ t.dep := by
  cases t <;> simp [Tm.parts, Tm.dep] at h ⊢
  · subst h; omega
  · subst h; omega
  · rcases h with rfl | rfl <;> omega
  · rcases h with rfl | rfl <;> omega
  · rcases h with rfl | rfl <;> omega
theorem parts_few (t : Tm) : t.parts.length ≤ 2 := by cases t <;> simp [Tm.parts]
end FY

set_option Elab.async false
set_option linter.all false
set_option maxRecDepth 100000
set_option maxHeartbeats 4000000
/-! the rules with the written part named (for comprehensions' blocks) -/
namespace FYR
open PySem PySem.Spec PyProof.Rows L2
section
variable {X : Cx} (K : PySem.W.Frag) (hK : X.K = K)
include hK
theorem kIn : OpR X (compareOp .In) (rIn K false) := by subst hK; exact op_in_seq
theorem kNotIn : OpR X (compareOp .NotIn) (rIn K true) := by subst hK; exact op_notIn_seq
theorem kEqD (hu : X.A.units + 64 < cLine) : OpR X (compareOp .Eq) (rEqD K) := by subst hK; exact op_eqD hu
theorem kNeD (hu : X.A.units + 64 < cLine) : OpR X (compareOp .NotEq) (rNeD K) := by subst hK; exact op_neD hu
theorem kIxT : IxR X (rIxT K) := by subst hK; exact ix_tup
theorem kIxL : IxR X (rIxL K) := by subst hK; exact ix_list
theorem kSlT : SlR X (rSlT K) := by subst hK; exact sl_tup
theorem kSlL : SlR X (rSlL K) := by subst hK; exact sl_list
theorem kCatT : OpR X (binaryOp .Add) (rCatT K) := by subst hK; exact op_catT
theorem kIsi : CallR X (.builtin "isinstance") (rIsi K) := by subst hK; exact call_isi
def rLenK (K : PySem.W.Frag) : List V → Hp → VK → Prop := fun xs H Q => ∃ p ys, xs = [.ref p] ∧ (SqL K H p ys ∨ SqT K H p ys) ∧ Q (.int ys.length) H
theorem kLen : CallR X (.builtin "len") (rLenK K) := by subst hK; exact call_len_seq
theorem kAll (hc : X.calm = true) : CallR X (.builtin "all") (rAll K) := by subst hK; exact cr_all hc
theorem kSum (hc : X.calm = true) : CallR X (.builtin "sum") (rSum K) := by subst hK; exact cr_sum hc
theorem kExtT : MtM X "list.extend" (rExtendT K) := by subst hK; exact mt_extendT
theorem kTupG {es : List Expr} {k : Nat} {t : TGs} {n : Nat} {pos : Pos} (hc : X.calm = true) (h : PGs X es t)
    (hn : (assignEach es X.env).length = n := by rfl) (hst : (assignEach es X.env).findIdx? (·.1) = none := by rfl) : PG X (.Tuple es k pos) (gTup K n t) := by subst hK; exact pg_tup hc h hn hst
theorem kList {tg l : Expr} {tl : TE} (hl : PE X l tl) : PI X tg l (iList K tl) := by subst hK; exact pi_list hl
theorem kTup {tg l : Expr} {tl : TE} (hl : PE X l tl) : PI X tg l (iTup K tl) := by subst hK; exact pi_tup hl
def rJoin (K : PySem.W.Frag) : V → List V → Hp → VK → Prop := fun x xs H Q => ∃ a p, ∃ ys : List Str, x = .str a ∧ xs = [.ref p] ∧ (SqL K H p (ys.map V.str) ∨ SqT K H p (ys.map V.str)) ∧ (ys.map (·.length)).sum + ys.length * a.length ≤ 16777216 ∧ Q (.str (Txt.join a ys)) H
theorem kJoin {o e : Expr} {to te : TE} {apos pos : Pos} (ho : PE X o to) (he : PE X e te) (hs : starEach [e] X.env = [(false, eval e X.env)] := by rfl) (hbase : attributeBase o "join" X.env (eval o X.env) = eval o X.env := by rfl) (hline : (apos.endLine == pos.line) = true := by rfl) :
    PE X (.Call (.Attribute o "join" apos) [e] [] pos) (tM1 (rJoin K) to te) := by subst hK; exact pe_join ho he hs hbase hline
section
variable {o e : Expr} {es : List Expr} {to : TE} {t : TA} {name : Str} {apos cpos : Pos} {T id : String} {r : V → List V → Hp → VK → Prop}
theorem kBm0 (pa : PlainAttrs T) (slot : Slot T name id) (hty : typeOf (.builtin id) = pure (.type "method_descriptor")) (hm : MtR X id r) (ho : PE X o to)
    (hbase : attributeBase o name X.env (eval o X.env) = eval o X.env := by rfl) (hline : (apos.endLine == cpos.line) = true := by rfl) : PE X (.Call (.Attribute o name apos) [] [] cpos) (tBM0 K T r to) := by subst hK; exact pe_bm0 pa slot hty hm ho hbase hline
theorem kBm (pa : PlainAttrs T) (slot : Slot T name id) (hty : typeOf (.builtin id) = pure (.type "method_descriptor")) (hm : MtR X id r) (ho : PE X o to) (ha : PA X (e :: es) t)
    (hbase : attributeBase o name X.env (eval o X.env) = eval o X.env := by rfl)
    (hfew : ((backTo cpos (starEach (e :: es) X.env)).all (fun x => !x.1) && (backToKw cpos (keywordEach [] X.env)).all (fun x => x.1.isSome)
      && decide ((e :: es).length + ([] : List Keyword).length + (if ([] : List Keyword).isEmpty then 0 else 1) < 30)) = true := by rfl)
    (hline : (apos.endLine == cpos.line) = true := by rfl) (hs : starEach (e :: es) X.env = (false, eval e X.env) :: starEach es X.env := by rfl) (hplain : (backTo cpos (starEach es X.env)).any (·.1) = false := by rfl) :
    PE X (.Call (.Attribute o name apos) (e :: es) [] cpos) (tBM K T r to t) := by subst hK; exact pe_bm pa slot hty hm ho ha hbase hfew hline hs hplain
end
theorem kRepr {k : Nat} (hgd : X.A.guards = some []) (hr : Room k X.A) : CallR X (.builtin "repr") (rReprD K) := by subst hK; exact call_reprD hgd hr
end
/-! slots and classes as values in short -/
section
variable {X : Cx}
theorem pTy {T : String} {x : Str} {pos : Pos} (hg : Gl X x) (hm : X.mg x = none) (hv : bootBuiltins x = some (.type T)) (hn : x ≠ "__name__" := by decide) (hd : (x == ("__debug__" : Str)) = false := by decide) : PE X (.Name x pos) (tC (.ty T)) := pe_bltn hg hm hv rfl hn hd
end
end FYR

set_option Elab.async false
set_option linter.all false
set_option maxRecDepth 100000
set_option maxHeartbeats 4000000
/-! own exceptions over ArithmeticError whose __init__ is a def -/
namespace FYR
open PySem PySem.Spec PyProof.Rows L2
abbrev aeT : List Value := [.type "ArithmeticError", .type "Exception", .type "BaseException", .type "object"]
structure OexA (K : PySem.W.Frag) (C : Addr) : Prop where
  cls : ∃ nm q N bs bm sn sub ab col dd k0 k1 k2 k3 k5, K.lookup C = some (excClassObj nm q C N bs bm true sn sub ab col dd k0 k1 k2 k3 k5 "ArithmeticError.__new__") ∧ PySem.W.excTail aeT bm = true
  sa : PySem.W.findIn K (.ref C) "__setattr__" = some (some (.builtin "object.__setattr__"))
  exC : PySem.W.subIn K (.ref C) (.type "BaseException") = some true
  tyC : PySem.W.typeIn K (.ref C) = some (.type "type")
  kC : PySem.W.keepIn K (.ref C) = true
section
variable {X : Cx} {pins : List (Addr × Obj)} {σ : L2.St} {H : Hp} {s : Shared} {a C dx : Addr} {f : Str} {y : V} {u : Value} {fs : List (Str × V)} {Q : Unit → Shared → Prop} {E : Value → Shared → Prop} {A : Around}
/-- what the class's record says -/
theorem OexA.recd {K : PySem.W.Frag} (T : OexA K C) : ∃ cd, PySem.W.clsIn K C = some cd ∧ cd.hasDict = true ∧ PySem.W.excOver K C aeT = true := by
  obtain ⟨nm, q, N, bs, bm, sn, sub, ab, col, dd, k0, k1, k2, k3, k5, hC, hbm⟩ := T.cls
  have hcl : PySem.W.clsIn K C = some { name := nm, bases := bs, mro := .ref C :: bm, ns := N, qualname := q, hasDict := true, slotNames := sn, subclasses := sub, abstract := ab, collection := col, hasDel := false } := by
    unfold PySem.W.clsIn
    rw [hC] <;> rfl
  refine ⟨_, hcl, rfl, ?_⟩
  unfold PySem.W.excOver
  rw [hcl]
  show (C == C && PySem.W.excTail aeT bm) = true
  rw [hbm]
  simp
theorem taker_none {K : PySem.W.Frag} (h : PySem.W.findIn K (.ref C) f = some none) : PySem.W.takerIn K C f = some none := by
  unfold PySem.W.takerIn
  rw [h]
  rfl
/-- the store of the first field -/
theorem ast_new (T : OexA X.K C) (I : Inv X pins σ H s) (e : H a = some (exo a C none)) (hno : PySem.W.findIn X.K (.ref C) f = some none) (ry : RelV y u)
    (h : ∀ dx s', H dx = none → dx ≠ a → Inv X pins σ (upd (upd H dx (exd dx [(f, y)])) a (exo a C (some dx))) s' → Q () s') : wpAny (model X.prog X.w) A (setAttr (.ref a) f u) Q E s := by
  obtain ⟨cd, hcd, hhd, hov⟩ := T.recd
  obtain ⟨t1, ho⟩ := exo_at I.hok e
  obtain ⟨hp, g, dr, tk, os⟩ := s
  refine PySem.W.set_plain I.kIn (ox := { cls := .ref C, dict := none, data := .fields #[.ref t1, .none, .none, .none, .bool false, .none] }) (od := none) ⟨ho, rfl, rfl, trivial⟩ T.sa ?_
  refine PySem.W.osa_openX (od := none) PySem.F.store_ArithmeticError I.kIn ⟨ho, rfl, rfl, trivial⟩ hov (taker_none hno) fun b => ?_
  have hxs : a ≠ hp.objs.size := Nat.ne_of_lt (Heap.lt_size ho)
  refine wpAny_bind (wpAny_pure (wpAny_bind (PySem.W.instanceDict_exc ho (PySem.W.looks_clsIn I.kIn hcd) hhd ?_)))
  refine HandSPX.store_in_new ?_ fun h' tk' hn' hs => ?_
  · exact ⟨_, #[], _, (Heap.get?_update_ne _ _ _ _ (Ne.symm hxs)).trans (Heap.get?_push_at rfl rfl), rfl, fun e he => absurd he (by simp), fun _ => rfl⟩
  have hx1 : (hp.push { cls := .type "dict", data := .dict #[] }).get? a = some { cls := .ref C, dict := none, data := .fields #[.ref t1, .none, .none, .none, .bool false, .none] } := Heap.get?_push_of_some _ ho
  have k : ∀ b o, b ≠ a → hp.get? b = some o → h'.get? b = some o := fun b o hb hbo => (hs.2 b (Nat.ne_of_lt (Heap.lt_size hbo))).trans ((Heap.get?_update_ne _ _ _ _ hb).trans (Heap.get?_push_of_some _ hbo))
  have hx : h'.get? a = some { cls := .ref C, dict := some hp.objs.size, data := .fields #[.ref t1, .none, .none, .none, .bool false, .none] } := (hs.2 a hxs).trans (Heap.get?_update_self _ hx1 rfl)
  have hnd : H hp.objs.size = none := I.hok.fresh (Nat.le_refl _)
  have nd : ∀ {b : Addr} {o : Obj}, hp.get? b = some o → b ≠ hp.objs.size := fun {b o} z => Nat.ne_of_lt (Heap.lt_size z)
  have na : ∀ {b : Addr}, H b = none → b ≠ a := fun {b} n z => by rw [z, e] at n; cases n
  have U : Un X.fs [] H (upd (upd H hp.objs.size (exd hp.objs.size [(f, y)])) a (exo a C (some hp.objs.size))) hp h' := {
    keep := fun b o z n _ _ => k b o (na n) z
    slot := fun b o z n _ _ => ⟨o.slots, k b o (na n) z⟩
    free := fun b o z n _ => by rw [upd_ne (na n), upd_ne (nd z)]; exact n
    there := fun b o z _ => by
      by_cases hb : b = a
      · subst hb; exact ⟨_, hx⟩
      · exact ⟨o, k b o hb z⟩
    tups := fun b xs z => by rw [upd_ne (at_ne e z exo_tup), upd_ne (ne_of_none z hnd)]; exact z
    frzs := fun b o v z => by rw [upd_ne (at_ne e z exo_frz), upd_ne (ne_of_none z hnd)]; exact z
    tbls := fun b ps z => ⟨#[], by rw [upd_ne (at_ne e z exo_tbl), upd_ne (ne_of_none z hnd), z]; simp⟩ }
  refine h _ _ hnd (Ne.symm hxs) (I.un (t' := tk') U fun b o z => ?_)
  by_cases hb : b = a
  · subst hb
    rw [upd_same] at z
    cases z
    exact exo_ok hx
  rw [upd_ne hb] at z
  by_cases hd : b = hp.objs.size
  · subst hd
    rw [upd_same] at z
    cases z
    exact exd_ok hn' (relO_put (fs := []) ry fun g => True.intro)
  rw [upd_ne hd] at z
  refine (I.hok b o z).stay (fun c v hc w => k c v ?_ w) (fun c hc => ?_) fun c xs hc => ?_
  · rcases hc with hc | hc
    · rw [hc]; exact hb
    · exact at_ne e hc exo_own
  · rw [upd_ne (at_ne e hc exo_own), upd_ne (ne_of_none hc hnd)]; exact hc
  · rw [upd_ne (at_ne e hc exo_tup), upd_ne (ne_of_none hc hnd)]; exact hc
/-- the store of a further one -/
theorem ast_old (T : OexA X.K C) (I : Inv X pins σ H s) (e : H a = some (exo a C (some dx))) (ed : H dx = some (exd dx fs)) (hl : fs.length ≤ 900) (hno : PySem.W.findIn X.K (.ref C) f = some none) (ry : RelV y u)
    (h : ∀ s', Inv X pins σ (upd H dx (exd dx ((f, y) :: fs))) s' → Q () s') : wpAny (model X.prog X.w) A (setAttr (.ref a) f u) Q E s := by
  obtain ⟨cd, hcd, hhd, hov⟩ := T.recd
  obtain ⟨t1, ho⟩ := exo_at I.hok e
  obtain ⟨mA, hns, rel⟩ := exd_at I.hok ed
  have hw := within_of rel
  obtain ⟨hp, g, dr, tk, os⟩ := s
  obtain ⟨oD, _, _, hoD, _, _⟩ := hns.count hw
  refine PySem.W.set_plain I.kIn (ox := { cls := .ref C, dict := some dx, data := .fields #[.ref t1, .none, .none, .none, .bool false, .none] }) (od := some oD) ⟨ho, rfl, rfl, hoD⟩ T.sa ?_
  refine PySem.W.osa_openX (od := some oD) PySem.F.store_ArithmeticError I.kIn ⟨ho, rfl, rfl, hoD⟩ hov (taker_none hno) fun b => ?_
  have fin : ∀ h' tk', h'.Ns1 dx (fun z => if z = f then some u else mA z) → Heap.SameBut dx hp h' → Q () ⟨h', g, dr, tk', os⟩ := fun h' tk' hn hs => by
    have hd : ∃ o, h'.get? dx = some o := by
      obtain ⟨o, _, _, e', _⟩ := hn
      exact ⟨o, e'⟩
    exact h _ (I.write (t' := tk') (x := dx) (e := dx) (o := exd dx ((f, y) :: fs)) (by rw [ed]; exact True.intro) (.inl rfl) (fun b o hb ho => (hs.2 b hb).trans ho) hd (exd_ok hn (relO_put ry rel)))
  show wpAny _ _ (Builtin.ObjectAttr.storeInOwnDict (.ref a) (.ref C) (.str f tk) f u b) _ _ _
  unfold Builtin.ObjectAttr.storeInOwnDict Builtin.ObjectAttr.ownDictForStores
  refine wpAny_bind (wpAny_pure (wpAny_bind ?_))
  unfold instanceDict
  refine wpAny_bind (wpAny_loadPart ho ?_)
  dsimp only
  refine wpAny_bind ((PySem.W.looks_clsIn (h := hp) I.kIn hcd).at ?_)
  rw [hhd]
  (try dsimp only [Bool.not_true])
  (try rw [if_neg (show ¬ (false = true) from by decide)])
  refine wpAny_pure ?_
  exact PySem.OEX.store_in_old hns hw (by rw [List.length_map]; omega) fun h' tk' hn hs => fin h' tk' hn hs
end
end FYR

set_option Elab.async false
set_option linter.all false
set_option maxRecDepth 100000
set_option maxHeartbeats 4000000
namespace FYR
open PySem PySem.Spec PyProof.Rows L2
/-- B.__init__(self, ..), B an own class without an __init__ of its own -/
def tAeI (K : PySem.W.Frag) (ta : L2.TA) : TE := fun σ H Q => ta σ H fun vs H1 => ∃ (a C : Addr) (ws : List V), vs = .ref a :: ws ∧ ws.length ≤ 1000 ∧ OexA K C ∧ H1 a = some (exo a C none) ∧ Q .non H1
def tOstA (K : PySem.W.Frag) (f : Str) (to te : TE) : TS := fun D σ H => te σ H fun y H1 => to σ H1 fun x H2 => ∃ a C : Addr, x = .ref a ∧ OexA K C ∧ PySem.W.findIn K (.ref C) f = some none ∧
  ((H2 a = some (exo a C none) ∧ ∀ dx, H2 dx = none → dx ≠ a → D.nx σ (upd (upd H2 dx (exd dx [(f, y)])) a (exo a C (some dx)))) ∨
    ∃ (dx : Addr) (fs : List (Str × V)), H2 a = some (exo a C (some dx)) ∧ H2 dx = some (exd dx fs) ∧ fs.length ≤ 900 ∧ D.nx σ (upd H2 dx (exd dx ((f, y) :: fs))))
section
variable {X : Cx} {o e : Expr} {es : List Expr} {to te : TE} {ta : L2.TA} {f x : Str} {p p' p1 p2 pos : Pos} {CL : Addr} {mc : Value}
theorem ainit_ok {pins : List (Addr × Obj)} {σ : L2.St} {H : Hp} {s : Shared} {a C : Addr} {A : Around} {E : Value → Shared → Prop} {us : List Value} {Q : Value → Shared → Prop} (T : OexA X.K C) (I : L2.Inv X pins σ H s) (e : H a = some (exo a C none)) (hl : us.length ≤ sizeLine) (h : ∀ s', L2.Inv X pins σ H s' → Q .none s') :
    wpAny (model X.prog X.w) A (call (.builtin "ArithmeticError.__init__") (.ref a :: us)) Q E s := by
  obtain ⟨nm, q, N, bs, bm, sn, sub, ab, col, dd, k0, k1, k2, k3, k5, hC, hbm⟩ := T.cls
  obtain ⟨t1, ho⟩ := exo_at I.hok e
  obtain ⟨hp, g, dr, tk, os⟩ := s
  refine wpAny_call (HandSPX.init_base PySem.F.excBase_ArithmeticError (fun Y => PySem.W.excTail_contains Y bm hbm) (I.kIn _ _ hC) ho hl fun h' t2 k hx => h _ ?_)
  have J := I.write (t' := tk) (x := a) (e := a) (o := exo a C none) (by rw [e]; exact True.intro) (.inl rfl) k ⟨_, hx⟩ (exo_ok hx)
  have same : upd H a (exo a C none) = H := by
    funext b
    by_cases hb : b = a
    · rw [hb, upd_same, e]
    · rw [upd_ne hb]
  rwa [same] at J
theorem pe_aeinit {pl : Sem Bool} (hg : Gl X x) (hm : X.mg x = some (.ref CL)) (r : ClX.CRead X.K CL mc) (vV : PySem.W.findCls X.K (.ref CL) mc "__init__" = some (.val (.builtin "ArithmeticError.__init__"))) (ha : PA X (e :: es) ta)
    (hdb : (x == ("__debug__" : Str)) = false := by decide)
    (hc : eval (.Call (.Attribute (.Name x p1) "__init__" p2) (e :: es) [] pos) X.env = (do
      let ov ← eval (.Name x p1) X.env
      standAt p2.atName
      let (f, first) ← holding [ov] (getMethod ov "__init__" pl)
      callWith pos f first (backTo pos (starEach (e :: es) X.env)) (backToKw pos (keywordEach [] X.env))) := by rfl)
    (he : starEach (e :: es) X.env = (false, eval e X.env) :: starEach es X.env := by rfl) (hpl : (backTo pos (starEach es X.env)).any (·.1) = false := by rfl) :
    PE X (.Call (.Attribute (.Name x p1) "__init__" p2) (e :: es) [] pos) (tAeI X.K ta) := by
  refine ⟨fun pins s σ H Q I h => ?_⟩
  refine PySem.W.methodCall_KW (ld_glob I hg hm ?_ hdb) hc
  refine PySem.W.method_cls I.kIn r.ga (PySem.W.cls_value I.kIn r.rd vV (by decide +kernel) ?_)
  show wpAny _ _ (callWith pos (Value.builtin "ArithmeticError.__init__") [] (backTo pos (starEach (e :: es) X.env)) []) _ _ _
  refine PyProof.Rows.callWith_method1 (thn (ha.run pos pins _ σ H _ (I.tok _) h) fun us s1 ⟨vs, H1, I1, r1, a, C, ws, ev, hl, T, ea, q⟩ => ?_) he hpl
  subst ev
  cases r1 with
  | @cons _ u0 _ ur ra rw' =>
    obtain rfl : u0 = Value.ref a := ra
    have hlen : ur.length ≤ sizeLine := by
      rw [← Paired.length rw']
      exact Nat.le_trans hl (by decide)
    exact ainit_ok T I1 ea hlen fun s' J => ⟨.non, H1, J, rfl, q⟩
theorem ps_ostA (ho : PE X o to) (he : PE X e te) (hs : swapsWith e (some (.Attribute o f p')) pos.line X.env = pure false := by rfl) : PS X (.Assign [.Attribute o f p'] e pos) (tOstA X.K f to te) := by
  refine ⟨fun pins s σ H D I h => ?_⟩
  refine plainObj_wpAny_Assign_Attribute (thn (he.run pins s σ H _ I h) fun v s1 ⟨y, H1, I1, r1, q1⟩ => thn (ho.run pins s1 σ H1 _ I1 q1) fun u s2 ⟨z, H2, I2, r2, a, C, ex, T, hno, q⟩ => ?_) hs
  subst ex
  obtain rfl : u = Value.ref a := r2
  rcases q with ⟨ea, q⟩ | ⟨dx, fs, ea, ed, hl, q⟩
  · exact ast_new T I2 ea hno r1 fun dx s' n ne J => ⟨σ, _, J, q dx n ne⟩
  · exact ast_old T I2 ea ed hl hno r1 fun s' J => ⟨σ, _, J, q⟩
/-- C(e, ..), C's own __init__ keeping sp -/
theorem pmk_aex {CX : CXT} {C fI : Addr} {k : Nat} {fd : FuncData} {ps : List Str} {sp : Sp} (T : OexA X.K C) (iC : PySem.W.findIn X.K (.ref C) "__init__" = some (some (.ref fI))) (tI : PySem.W.typeIn X.K (.ref fI) = some (.type "function"))
    (F1 : FnOk X.prog X.w X.K X.mg X.base CX k fI fd ps sp) (hr : Room (k + 1) X.A) (hb : L2.Binds X.K fd ps []) (hx : Passes CX X (fun _ _ _ => False)) (hg : Gl X x) (hm : X.mg x = some (.ref C)) (ha : PA X (e :: es) ta)
    (hdb : (x == ("__debug__" : Str)) = false := by decide) (he : starEach (e :: es) X.env = (false, eval e X.env) :: starEach es X.env := by rfl) (hpl : (backTo pos (starEach es X.env)).any (·.1) = false := by rfl) :
    PMk X (.Call (.Name x p) (e :: es) [] pos) (tMkO C sp [] ta) := by
  intro pins s σ H Q I h
  obtain ⟨nm, q, N, bs, bm, sn, sub, ab, col, dd, k0, k1, k2, k3, k5, hC, hbm⟩ := T.cls
  refine wpAny_Call_Name_kw (ld_glob I hg hm ?_ hdb)
  refine PySem.W.callWith_K (h₀ := X.base) I.ok.mod.kin T.kC (thn (ha.run pos pins s σ H _ I h) fun us s1 ⟨vs, H1, I1, r1, hz, q1⟩ => ⟨I1.kIn, ?_⟩) he hpl
  show wpAny _ _ (call (.ref C) us) _ _ _
  obtain ⟨hp, g, dr, tk, os⟩ := s1
  have hsz : hp.objs.size ≤ hp.objs.size + 1 := Nat.le_succ _
  have hn : H1 (hp.objs.size + 1) = none := I1.hok.fresh hsz
  have hq := q1 _ hn
  rw [List.append_nil] at hq
  have kk : ∀ b o, hp.get? b = some o → ((hp.push (PySem.W.kdv_tup us)).push (HandSPX.excO C hp.objs.size)).get? b = some o := fun b o e => Heap.get?_push_of_some _ (Heap.get?_push_of_some _ e)
  have hget : ((hp.push (PySem.W.kdv_tup us)).push (HandSPX.excO C hp.objs.size)).get? (hp.objs.size + 1) = some (HandSPX.excO C hp.objs.size) := by heap_get
  have I2 := I1.laid (t' := tk) (a := hp.objs.size + 1) (o := exo (hp.objs.size + 1) C none) kk hsz (exo_ok hget)
  have r2 : Vals (V.ref (hp.objs.size + 1) :: vs) (Value.ref (hp.objs.size + 1) :: us) := .cons rfl r1
  have hl : (Value.ref (hp.objs.size + 1) :: us).length = ps.length := (r2.length.symm).trans (F1.len _ _ _ _ hq)
  have hus : us.length ≤ sizeLine := by
    rw [← Paired.length r1]
    exact Nat.le_trans hz (by decide)
  refine wpAny_call (HandSPX.call_own PySem.F.excBase_ArithmeticError (fun Y => PySem.W.excTail_contains Y bm hbm) (I1.kIn _ _ hC) (PySem.W.looks_findIn I1.kIn iC) (fun self => PySem.W.bind_fn I1.kIn self tI) hus ?_)
  have bnd := hb _ (Value.ref (hp.objs.size + 1) :: us) I2.kIn (by rw [List.append_nil]; exact hl)
  rw [List.append_nil] at bnd
  refine codeAny_mono (F1.run _ X.stack _ _ ⟨Value.ref (hp.objs.size + 1) :: us, []⟩ (Value.ref (hp.objs.size + 1) :: us) _ _ (fun _ _ _ => False) (hr.make C us []) (I2.env0.make C us []) bnd r2 hq) fun r s' hq' => ?_
  cases r with
  | error er => exact hx pins σ _ _ er s' I2 hq'
  | ok fl =>
    cases fl with
    | ret u =>
      obtain ⟨v, H2, os2, bare2, un2, hok2, rv, ev, d, fs, ea, ed, hd1, q2⟩ := hq'
      subst ev
      obtain ⟨h2, g2, d2, t2, os'⟩ := s'
      exact ⟨rv, mk_end (raises_own T.exC T.tyC) I1 hsz kk un2 hok2 os2 bare2 ea ed hd1 q2⟩
    | next => exact False.elim hq'
    | brk => exact False.elim hq'
    | cont => exact False.elim hq'
end
end FYR

set_option Elab.async false
set_option linter.all false
set_option maxRecDepth 100000
set_option maxHeartbeats 4000000
/-! more rules with the written part named -/
namespace FYR
open PySem PySem.Spec PyProof.Rows L2
section
variable {X : Cx} (K : PySem.W.Frag) (hK : X.K = K)
include hK
theorem kFld {e : Expr} {ta : TE} {f : Str} {pos : Pos} (he : PE X e ta) (hb : attributeBase e f X.env (eval e X.env) = eval e X.env := by rfl) : PE X (.Attribute e f pos) (tFld K ta f) := by subst hK; exact pe_fld he hb
theorem kIsiT : CallR X (.builtin "isinstance") (rIsiT K) := by subst hK; exact call_isiT
theorem kEnum {e : Expr} {ta : L2.TA} {p pos tpos : Pos} {elts : List Expr} {kk : Nat} (hg : Gl X "enumerate") (hm : X.mg "enumerate" = none) (ha : PA X [e] ta) (hs : starEach [e] X.env = [(false, eval e X.env)] := by rfl) :
    PI X (.Tuple elts kk tpos) (.Call (.Name "enumerate" p) [e] [] pos) (iEnum K ta) := by subst hK; exact pi_enum hg hm ha hs
theorem kSetF {o value : Expr} {ta tv : TE} {f : Str} {pos pos' : Pos} (ha : PE X o ta) (hv : PE X value tv) (hs : swapsWith value (some (.Attribute o f pos')) pos.line X.env = pure false := by rfl) : PS X (.Assign [.Attribute o f pos'] value pos) (sFld K ta tv f) := by subst hK; exact ps_fld ha hv hs
end
end FYR

set_option Elab.async false
set_option linter.all false
set_option maxRecDepth 100000
set_option maxHeartbeats 4000000
namespace FY
open PySem L2 FYR
def top (i : Nat) : Stmt := PySem.Challenge.pw_flowyard_k22_compiled_yards_by_own_going.main.body.getD i (.Pass ⟨0, 0, 0, 0⟩)
theorem bt_len : bootBuiltins "len" = some (.builtin "len") := by decide +kernel
theorem bt_isinstance : bootBuiltins "isinstance" = some (.builtin "isinstance") := by decide +kernel
theorem bt_all : bootBuiltins "all" = some (.builtin "all") := by decide +kernel
theorem bt_sum : bootBuiltins "sum" = some (.builtin "sum") := by decide +kernel
theorem bt_abs : bootBuiltins "abs" = some (.builtin "abs") := by decide +kernel
theorem bt_max : bootBuiltins "max" = some (.builtin "max") := by decide +kernel
theorem bt_min : bootBuiltins "min" = some (.builtin "min") := by decide +kernel
theorem bt_divmod : bootBuiltins "divmod" = some (.builtin "divmod") := by decide +kernel
theorem bt_repr : bootBuiltins "repr" = some (.builtin "repr") := by decide +kernel
theorem bt_int : bootBuiltins "int" = some (.type "int") := by decide +kernel
theorem bt_str : bootBuiltins "str" = some (.type "str") := by decide +kernel
theorem bt_tuple : bootBuiltins "tuple" = some (.type "tuple") := by decide +kernel
theorem bt_bool : bootBuiltins "bool" = some (.type "bool") := by decide +kernel
theorem bt_sorted : bootBuiltins "sorted" = some (.builtin "sorted") := by decide +kernel
theorem bt_list : bootBuiltins "list" = some (.type "list") := by decide +kernel
structure Txt (K : PySem.W.Frag) (mg : Str → Option Value) (aS a1 a2 : Addr) : Prop where
  b_len : mg "len" = none
  b_isinstance : mg "isinstance" = none
  b_all : mg "all" = none
  b_sum : mg "sum" = none
  b_abs : mg "abs" = none
  b_max : mg "max" = none
  b_min : mg "min" = none
  b_divmod : mg "divmod" = none
  b_repr : mg "repr" = none
  b_int : mg "int" = none
  b_str : mg "str" = none
  b_tuple : mg "tuple" = none
  b_list : mg "list" = none
  b_zip : mg "zip" = none
  b_range : mg "range" = none
  b_bool : mg "bool" = none
  b_enumerate : mg "enumerate" = none
  b_sorted : mg "sorted" = none
  g_SIGNS : ∃ u, mg "SIGNS" = some u ∧ RelV (.ref aS) u
  k_SIGNS : ∀ H, SqT K H aS [.str "0", .str "1"]
  g_OF_ONE : ∃ u, mg "OF_ONE" = some u ∧ RelV (.ref a1) u
  k_OF_ONE : ∀ H, SqT K H a1 [.str "not", .str "twice", .str "half", .str "change", .str "count"]
  g_OF_TWO : ∃ u, mg "OF_TWO" = some u ∧ RelV (.ref a2) u
  k_OF_TWO : ∀ H, SqT K H a2 [.str "keep", .str "then"]
  g_IN : ∃ u, mg "IN" = some u ∧ RelV (.str "in") u
  g_LATE : ∃ u, mg "LATE" = some u ∧ RelV (.str "late") u
  g_BY : ∃ u, mg "BY" = some u ∧ RelV (.str "by") u
  g_KEEP : ∃ u, mg "KEEP" = some u ∧ RelV (.str "keep") u
  g_THEN : ∃ u, mg "THEN" = some u ∧ RelV (.str "then") u
  g_MOST_STANDINGS : ∃ u, mg "MOST_STANDINGS" = some u ∧ RelV (.int 4) u
  g_MOST_GIVEN : ∃ u, mg "MOST_GIVEN" = some u ∧ RelV (.int 2) u
  g_MOST_TICKS : ∃ u, mg "MOST_TICKS" = some u ∧ RelV (.int 9) u
  g_MOST_NODES : ∃ u, mg "MOST_NODES" = some u ∧ RelV (.int 9) u
/-! promises -/
def spIsSign : Sp := fun vs H Q _ => ∃ b, vs = [.str (sgn b)] ∧ Q (.bl true) H
def spIsText : Sp := fun vs H Q _ => ∃ bs, vs = [.str (tx bs)] ∧ bs.length ≤ 100000 ∧ ∀ H', Same H H' → Q (.bl true) H'
def spIsTextOf : Sp := fun vs H Q _ => ∃ (bs : List Bool) (n : Int), vs = [.str (tx bs), .int n] ∧ bs.length ≤ 100000 ∧ ∀ H', Same H H' → Q (.bl (decide ((bs.length : Int) ≤ n))) H'
def spWantStream : Sp := fun vs H Q _ => ∃ bs, vs = [.str (tx bs)] ∧ bs.length ≤ 1000 ∧ ∀ H', Same H H' → Q .non H'
def spPartsOf : Sp := fun vs H Q _ => ∃ v t, vs = [v] ∧ TA H v t ∧ t.dep ≤ 60 ∧ ∀ H' p ws, Same H H' → H' p = some (.tup ws) → Paired (TA H') ws t.parts → Q (.ref p) H'
def spHasShape : Sp := fun vs H Q _ => ∃ v t, vs = [v] ∧ TA H v t ∧ t.isIn = false ∧ ∀ H', Same H H' → Q (.bl true) H'
def spIsTerm : Sp := fun vs H Q _ => ∃ v t, vs = [v] ∧ TA H v t ∧ t.nodes ≤ 40 ∧ ∀ H', Same H H' → Q (.bl (decide (t.nodes ≤ 9))) H'
def spWantTerm : Sp := fun vs H Q _ => ∃ v t, vs = [v] ∧ TA H v t ∧ t.nodes ≤ 9 ∧ ∀ H', Same H H' → Q .non H'
theorem ty_str {K : PySem.W.Frag} {H : Hp} (x : Str) : TyX K H (.str x) (.type "str") := .base (.str x)
theorem ty_tup {K : PySem.W.Frag} {H : Hp} {a : Addr} {xs : List V} (h : H a = some (.tup xs)) : TyX K H (.ref a) (.type "tuple") := .base (.tup h)
theorem kss {K : PySem.W.Frag} : PySem.W.kitOne K (.type "str") (.type "str") = some true := kit_ty (by decide +kernel)
theorem kts {K : PySem.W.Frag} : PySem.W.kitOne K (.type "tuple") (.type "str") = some false := kit_ty (by decide +kernel)
theorem ktt {K : PySem.W.Frag} : PySem.W.kitOne K (.type "tuple") (.type "tuple") = some true := kit_ty (by decide +kernel)
theorem kst {K : PySem.W.Frag} : PySem.W.kitOne K (.type "str") (.type "tuple") = some false := kit_ty (by decide +kernel)
theorem tyI {σ : St} {H : Hp} {A B : Hp → Prop} (h : A H) : tYes σ H (fun b H3 => if b = true then A H3 else B H3) := by
  show if true = true then A H else B H
  rw [if_pos rfl]
  exact h
theorem o1w (w : W1) : (if false = true then !inV (.str w.s) [.str "not", .str "twice", .str "half", .str "change", .str "count"] else inV (.str w.s) [.str "not", .str "twice", .str "half", .str "change", .str "count"]) = true := by cases w <;> decide +kernel
theorem o1l : (if false = true then !inV (.str "late") [.str "not", .str "twice", .str "half", .str "change", .str "count"] else inV (.str "late") [.str "not", .str "twice", .str "half", .str "change", .str "count"]) = false := by decide +kernel
theorem o1b : (if false = true then !inV (.str "by") [.str "not", .str "twice", .str "half", .str "change", .str "count"] else inV (.str "by") [.str "not", .str "twice", .str "half", .str "change", .str "count"]) = false := by decide +kernel
theorem o1k : (if false = true then !inV (.str "keep") [.str "not", .str "twice", .str "half", .str "change", .str "count"] else inV (.str "keep") [.str "not", .str "twice", .str "half", .str "change", .str "count"]) = false := by decide +kernel
theorem o1t : (if false = true then !inV (.str "then") [.str "not", .str "twice", .str "half", .str "change", .str "count"] else inV (.str "then") [.str "not", .str "twice", .str "half", .str "change", .str "count"]) = false := by decide +kernel
theorem o2l : (if false = true then !inV (.str "late") [.str "keep", .str "then"] else inV (.str "late") [.str "keep", .str "then"]) = false := by decide +kernel
theorem o2b : (if false = true then !inV (.str "by") [.str "keep", .str "then"] else inV (.str "by") [.str "keep", .str "then"]) = false := by decide +kernel
theorem o2k : (if false = true then !inV (.str "keep") [.str "keep", .str "then"] else inV (.str "keep") [.str "keep", .str "then"]) = true := by decide +kernel
theorem o2t : (if false = true then !inV (.str "then") [.str "keep", .str "then"] else inV (.str "then") [.str "keep", .str "then"]) = true := by decide +kernel
theorem iteTd {c : Bool} {A B : Prop} (e : c = true) (h : A) : if c = true then A else B := by
  subst e
  exact iteT h
theorem iteFd {c : Bool} {A B : Prop} (e : c = false) (h : B) : if c = true then A else B := by
  subst e
  exact iteF h
theorem nw1 {p : Prop} : ¬ ((1 : Nat) = 0 ∧ p) := fun z => absurd z.1 (by decide)
theorem nw2 {p : Prop} : ¬ ((2 : Nat) = 0 ∧ p) := fun z => absurd z.1 (by decide)
theorem in_signs (b : Bool) : inV (.str (sgn b)) [.str "0", .str "1"] = true := by cases b <;> decide +kernel
section
variable {P : Program} {w : World} {K : PySem.W.Frag} {mg : Str → Option Value} {base : Heap} {aS a1 a2 : Addr} {f : Addr} {fd : FuncData}
abbrev s_is_sign : Stmt := top 19
abbrev N_is_sign : List Str := ["value"]
theorem sc_is_sign : FnScope N_is_sign ["value"] (defScope s_is_sign) := ⟨rfl, rfl, rfl, by decide +kernel, rfl, by decide +kernel, by decide +kernel⟩
theorem ok_is_sign (F : Fun K "is_sign" "is_sign" s_is_sign f fd) (T : Txt K mg aS a1 a2) : FnOk P w K mg base CX0 1 f fd ["value"] spIsSign := by
  refine F.ok sc_is_sign (fun vs H Q E h => ?_) (fun cdv A outer s H vs Q E hr h => ?_)
  · obtain ⟨b, rfl, _⟩ := h
    rfl
  obtain ⟨b, rfl, q⟩ := h
  refine ⟨_, (pss_one (ps_ret (pe_and (pe_callB (kIsi K rfl) rfl T.b_isinstance bt_isinstance (pa_cons (pv 0) (pa_cons (pTy rfl T.b_str bt_str) pa_nil))) (pe_one (pe_cmpR (kIn K rfl) (pv 0) (C8.pe_gc rfl T.g_SIGNS) rfl))))), ?_⟩
  refine ⟨_, rfl, _, _, _, _, _, rfl, .ty _, ty_str _, kss, _, rfl, iteT ?_⟩
  refine ⟨_, rfl, _, _, rfl, .inr (T.k_SIGNS _), rfl, rfl, ?_⟩
  rw [if_neg Bool.false_ne_true, in_signs]
  exact q
abbrev s_is_text : Stmt := top 20
abbrev N_is_text : List Str := ["value", "sign"]
theorem sc_is_text : FnScope N_is_text ["value"] (defScope s_is_text) := ⟨rfl, rfl, rfl, by decide +kernel, rfl, by decide +kernel, by decide +kernel⟩
theorem ok_is_text (F : Fun K "is_text" "is_text" s_is_text f fd) (T : Txt K mg aS a1 a2) : FnOk P w K mg base CX0 1 f fd ["value"] spIsText := by
  refine F.ok sc_is_text (fun vs H Q E h => ?_) (fun cdv A outer s H vs Q E hr h => ?_)
  · obtain ⟨b, rfl, _⟩ := h
    rfl
  obtain ⟨bs, rfl, hl, q⟩ := h
  refine ⟨_, (pss_one (ps_ret (pe_and (pe_callB (kIsi K rfl) rfl T.b_isinstance bt_isinstance (pa_cons (pv 0) (pa_cons (pTy rfl T.b_str bt_str) pa_nil))) (pe_one (pe_callB (kAll K rfl rfl) rfl T.b_all bt_all (pa_cons (pe_lc (own := [("sign", 1)]) rfl sc_is_text.nd (pi_str (pv 0)) (blkOk_by (N := N_is_text) (sc := defScope s_is_text) (by decide +kernel)) (fun _ _ _ _ _ => (pg_name (i := 1) sc_is_text.nd rfl (Or.inl rfl))) (fun _ _ _ _ _ => pts_nil) (fun _ _ _ _ _ => (pe_cmpR (kIn K rfl) (pv 1) (C8.pe_gc rfl T.g_SIGNS) rfl))) pa_nil)))))), ?_⟩
  refine ⟨_, rfl, _, _, _, _, _, rfl, .ty _, ty_str _, kss, _, rfl, iteT ?_⟩
  refine ⟨_, rfl, _, rfl, fun D hD => lc_it walk_str (fun i H' => Same H H' ∧ H' D = some (.lst (List.replicate i (.bl true)))) ⟨same_new hD _, upd_same⟩ (fun _ _ _ _ => trivial) ?_ ?_⟩
  · rintro i x H1 H2 hi ⟨sm, hd⟩ ⟨rfl, c, hc, rfl⟩
    rw [tx_get] at hc
    obtain ⟨b, hb, rfl⟩ := Option.map_eq_some_iff.mp hc
    refine ⟨rfl, tyI ?_⟩
    refine ⟨_, rfl, _, _, rfl, .inr (T.k_SIGNS _), rfl, rfl, ?_⟩
    rw [if_neg Bool.false_ne_true]
    rw [show inV (V.str { cps := #[cd b] }) [V.str (Str.ofString "0"), V.str (Str.ofString "1")] = true from in_signs b]
    have hi' : i < bs.length := by rw [tx_size] at hi; exact hi
    refine ⟨_, hd, ?_, fun b o e => ?_, ?_⟩
    · rw [List.length_replicate]
      exact Nat.lt_of_lt_of_le hi' (small5 hl)
    · rw [upd_ne (ne_of_none e hD)]
      exact sm _ _ e
    · rw [upd_same, List.replicate_succ']
  · rintro H1 ⟨sm, hd⟩
    refine ⟨_, List.replicate (tx bs).cps.size true, rfl, SqL.of (by rw [hd, List.map_replicate]), ?_⟩
    have e : (List.replicate (tx bs).cps.size true).all id = true := by simp
    rw [e]
    exact q _ sm
abbrev s_is_text_of : Stmt := top 22
abbrev N_is_text_of : List Str := ["value", "most"]
theorem sc_is_text_of : FnScope N_is_text_of ["value", "most"] (defScope s_is_text_of) := ⟨rfl, rfl, rfl, by decide +kernel, rfl, by decide +kernel, by decide +kernel⟩
theorem ok_is_text_of (F : Fun K "is_text_of" "is_text_of" s_is_text_of f fd) (T : Txt K mg aS a1 a2) (c_is_text : C8.Cal P w K mg base 1 "is_text" spIsText []) : FnOk P w K mg base CX0 2 f fd ["value", "most"] spIsTextOf := by
  refine F.ok sc_is_text_of (fun vs H Q E h => ?_) (fun cdv A outer s H vs Q E hr h => ?_)
  · obtain ⟨b, n, rfl, _⟩ := h
    rfl
  obtain ⟨bs, n, rfl, hl, q⟩ := h
  refine ⟨_, (pss_one (ps_ret (pe_and (C8.pe_c c_is_text hr (by decide) rfl (pa_cons (pv 0) pa_nil)) (pe_one (pe_cmpR op_le (pe_callB call_len_str rfl T.b_len bt_len (pa_cons (pv 0) pa_nil)) (pv 1) (nomark _)))))), ?_⟩
  refine ⟨_, rfl, bs, rfl, hl, fun H1 sm => ⟨_, rfl, iteT ?_⟩⟩
  refine ⟨_, rfl, _, rfl, by rw [tx_len]; exact small5 hl, _, rfl, _, _, rfl, rfl, ?_⟩
  rw [tx_len]
  exact q _ sm
abbrev s_parts_of : Stmt := top 50
abbrev N_parts_of : List Str := ["term"]
theorem sc_parts_of : FnScope N_parts_of ["term"] (defScope s_parts_of) := ⟨rfl, rfl, rfl, by decide +kernel, rfl, by decide +kernel, by decide +kernel⟩
theorem ok_parts_of (F : Fun K "parts_of" "parts_of" s_parts_of f fd) (T : Txt K mg aS a1 a2) : FnOk P w K mg base CX0 1 f fd ["term"] spPartsOf := by
  refine F.ok sc_parts_of (fun vs H Q E h => ?_) (fun cdv A outer s H vs Q E hr h => ?_)
  · obtain ⟨b, t, rfl, _⟩ := h
    rfl
  obtain ⟨v, t, rfl, ta, hn, q⟩ := h
  refine ⟨_, (pss_cons (ps_if (pt_cmpR (kEqD K rfl hr.units) (pv 0) (C8.pe_gc rfl T.g_IN) (nomark _))
        (pss_one (ps_ret (pe_tup pa_nil)))
        pss_nil)
        (pss_cons (ps_if (PW.pt (pw_or (pt_cmpR (kIn K rfl) (pe_ix (kIxT K rfl) (pv 0) pe_int (fun _ _ => rfl)) (C8.pe_gc rfl T.g_OF_ONE) rfl) (pw_or1 (pt_cmpR (kIn K rfl) (pe_ix (kIxT K rfl) (pv 0) pe_int (fun _ _ => rfl)) (C8.pe_gc rfl T.g_OF_TWO) rfl))))
        (pss_one (ps_ret (pe_slice (kSlT K rfl) (pv 0) (po_some pe_int) po_none)))
        pss_nil)
        (pss_one (ps_ret (pe_slice (kSlT K rfl) (pv 0) (po_some pe_int) po_none))))), ?_⟩
  refine ⟨_, rfl, _, _, ta.dp, .str _, shp_dep hn, shp_in, _, rfl, ?_⟩
  rw [eqv_in]
  cases t with
  | inn => exact iteT ⟨by decide, fun p hp => q _ _ _ (same_new hp _) upd_same .nil⟩
  | one w t =>
    obtain ⟨a, x, rfl, h, r⟩ := ta
    refine iteF ?_
    refine ⟨_, rfl, _, _, _, _, rfl, rfl, SqT.of h, rfl, _, _, rfl, .inr (T.k_OF_ONE _), rfl, rfl, _, rfl, ?_⟩
    rw [o1w]
    refine iteT (iteT ?_)
    exact ⟨_, rfl, _, rfl, _, _, rfl, SqT.of h, nw1, fun p hp => q _ _ _ (same_new hp _) upd_same (.cons (r.keep (Tups.of (same_new hp _))) .nil)⟩
  | late b t =>
    obtain ⟨a, x, rfl, h, r⟩ := ta
    refine iteF ⟨_, rfl, _, _, _, _, rfl, rfl, SqT.of h, rfl, _, _, rfl, .inr (T.k_OF_ONE _), rfl, rfl, _, rfl, ?_⟩
    rw [o1l]
    refine iteF ⟨_, rfl, _, _, _, _, rfl, rfl, SqT.of h, rfl, _, _, rfl, .inr (T.k_OF_TWO _), rfl, rfl, _, rfl, ?_⟩
    rw [o2l]
    refine iteF ?_
    exact ⟨_, rfl, _, rfl, _, _, rfl, SqT.of h, nw2, fun p hp => q _ _ _ (same_new hp _) upd_same (.cons (r.keep (Tups.of (same_new hp _))) .nil)⟩
  | byy b1 b2 b3 b4 t u =>
    obtain ⟨a, x, y, rfl, h, r, r'⟩ := ta
    refine iteF ⟨_, rfl, _, _, _, _, rfl, rfl, SqT.of h, rfl, _, _, rfl, .inr (T.k_OF_ONE _), rfl, rfl, _, rfl, ?_⟩
    rw [o1b]
    refine iteF ⟨_, rfl, _, _, _, _, rfl, rfl, SqT.of h, rfl, _, _, rfl, .inr (T.k_OF_TWO _), rfl, rfl, _, rfl, ?_⟩
    rw [o2b]
    refine iteF ?_
    exact ⟨_, rfl, _, rfl, _, _, rfl, SqT.of h, nw2, fun p hp => q _ _ _ (same_new hp _) upd_same (.cons (r.keep (Tups.of (same_new hp _))) (.cons (r'.keep (Tups.of (same_new hp _))) .nil))⟩
  | keep t u =>
    obtain ⟨a, x, y, rfl, h, r, r'⟩ := ta
    refine iteF ⟨_, rfl, _, _, _, _, rfl, rfl, SqT.of h, rfl, _, _, rfl, .inr (T.k_OF_ONE _), rfl, rfl, _, rfl, ?_⟩
    rw [o1k]
    refine iteF ⟨_, rfl, _, _, _, _, rfl, rfl, SqT.of h, rfl, _, _, rfl, .inr (T.k_OF_TWO _), rfl, rfl, _, rfl, ?_⟩
    rw [o2k]
    refine iteT ?_
    exact ⟨_, rfl, _, rfl, _, _, rfl, SqT.of h, nw1, fun p hp => q _ _ _ (same_new hp _) upd_same (.cons (r.keep (Tups.of (same_new hp _))) (.cons (r'.keep (Tups.of (same_new hp _))) .nil))⟩
  | thn t u =>
    obtain ⟨a, x, y, rfl, h, r, r'⟩ := ta
    refine iteF ⟨_, rfl, _, _, _, _, rfl, rfl, SqT.of h, rfl, _, _, rfl, .inr (T.k_OF_ONE _), rfl, rfl, _, rfl, ?_⟩
    rw [o1t]
    refine iteF ⟨_, rfl, _, _, _, _, rfl, rfl, SqT.of h, rfl, _, _, rfl, .inr (T.k_OF_TWO _), rfl, rfl, _, rfl, ?_⟩
    rw [o2t]
    refine iteT ?_
    exact ⟨_, rfl, _, rfl, _, _, rfl, SqT.of h, nw1, fun p hp => q _ _ _ (same_new hp _) upd_same (.cons (r.keep (Tups.of (same_new hp _))) (.cons (r'.keep (Tups.of (same_new hp _))) .nil))⟩
abbrev s_has_shape : Stmt := top 51
abbrev N_has_shape : List Str := ["value"]
theorem sc_has_shape : FnScope N_has_shape ["value"] (defScope s_has_shape) := ⟨rfl, rfl, rfl, by decide +kernel, rfl, by decide +kernel, by decide +kernel⟩
theorem ok_has_shape (F : Fun K "has_shape" "has_shape" s_has_shape f fd) (T : Txt K mg aS a1 a2) (c_is_sign : C8.Cal P w K mg base 1 "is_sign" spIsSign []) (c_is_text : C8.Cal P w K mg base 1 "is_text" spIsText []) : FnOk P w K mg base CX0 2 f fd ["value"] spHasShape := by
  refine F.ok sc_has_shape (fun vs H Q E h => ?_) (fun cdv A outer s H vs Q E hr h => ?_)
  · obtain ⟨b, t, rfl, _⟩ := h
    rfl
  obtain ⟨v, t, rfl, ta, hn, q⟩ := h
  refine ⟨_, (pss_cons (ps_if (PW.pt (pw_or (pt_not (pt_val (pe_callB (kIsi K rfl) rfl T.b_isinstance bt_isinstance (pa_cons (pv 0) (pa_cons (pTy rfl T.b_tuple bt_tuple) pa_nil))))) (pw_or (pt_cmpR op_eq (pe_callB (kLen K rfl) rfl T.b_len bt_len (pa_cons (pv 0) pa_nil)) pe_int (nomark _)) (pw_or1 (pt_not (pt_val (pe_callB (kIsi K rfl) rfl T.b_isinstance bt_isinstance (pa_cons (pe_ix (kIxT K rfl) (pv 0) pe_int (fun _ _ => rfl)) (pa_cons (pTy rfl T.b_str bt_str) pa_nil)))))))))
        (pss_one (ps_ret pe_bl))
        pss_nil)
        (pss_cons (ps_if (pt_cmpR (kIn K rfl) (pe_ix (kIxT K rfl) (pv 0) pe_int (fun _ _ => rfl)) (C8.pe_gc rfl T.g_OF_ONE) rfl)
        (pss_one (ps_ret (pe_cmpR op_eq (pe_callB (kLen K rfl) rfl T.b_len bt_len (pa_cons (pv 0) pa_nil)) pe_int (nomark _))))
        pss_nil)
        (pss_cons (ps_if (pt_cmpR (kIn K rfl) (pe_ix (kIxT K rfl) (pv 0) pe_int (fun _ _ => rfl)) (C8.pe_gc rfl T.g_OF_TWO) rfl)
        (pss_one (ps_ret (pe_cmpR op_eq (pe_callB (kLen K rfl) rfl T.b_len bt_len (pa_cons (pv 0) pa_nil)) pe_int (nomark _))))
        pss_nil)
        (pss_cons (ps_if (pt_cmpR op_eq (pe_ix (kIxT K rfl) (pv 0) pe_int (fun _ _ => rfl)) (C8.pe_gc rfl T.g_LATE) (nomark _))
        (pss_one (ps_ret (pe_and (pe_cmpR op_eq (pe_callB (kLen K rfl) rfl T.b_len bt_len (pa_cons (pv 0) pa_nil)) pe_int (nomark _)) (pe_one (C8.pe_c c_is_sign hr (by decide) rfl (pa_cons (pe_ix (kIxT K rfl) (pv 0) pe_int (fun _ _ => rfl)) pa_nil))))))
        pss_nil)
        (pss_one (ps_ret (pe_and (pe_cmpR op_eq (pe_ix (kIxT K rfl) (pv 0) pe_int (fun _ _ => rfl)) (C8.pe_gc rfl T.g_BY) (nomark _)) (pe_and (pe_cmpR op_eq (pe_callB (kLen K rfl) rfl T.b_len bt_len (pa_cons (pv 0) pa_nil)) pe_int (nomark _)) (pe_and (C8.pe_c c_is_text hr (by decide) rfl (pa_cons (pe_ix (kIxT K rfl) (pv 0) pe_int (fun _ _ => rfl)) pa_nil)) (pe_one (pe_cmpR op_eq (pe_callB call_len_str rfl T.b_len bt_len (pa_cons (pe_ix (kIxT K rfl) (pv 0) pe_int (fun _ _ => rfl)) pa_nil)) pe_int (nomark _)))))))))))), ?_⟩
  cases t with
  | inn => cases hn
  | one w t =>
    obtain ⟨a, x, rfl, h, r⟩ := ta
    refine ⟨_, rfl, _, _, _, _, _, rfl, .ty _, ty_tup h, ktt, _, rfl, iteF ⟨_, rfl, _, _, rfl, .inr (SqT.of h), rfl, _, rfl, iteFd (by rw [dec_int]; rfl) ⟨_, rfl, _, _, _, _, rfl, rfl, SqT.of h, rfl, _, _, _, _, _, rfl, .ty _, ty_str _, kss, _, rfl, iteF ?_⟩⟩⟩
    refine ⟨_, rfl, _, _, _, _, rfl, rfl, SqT.of h, rfl, _, _, rfl, .inr (T.k_OF_ONE _), rfl, rfl, _, rfl, iteTd (o1w _) ?_⟩
    exact ⟨_, rfl, _, _, rfl, .inr (SqT.of h), rfl, q _ (Same.refl _)⟩
  | keep t u =>
    obtain ⟨a, x, y, rfl, h, r⟩ := ta
    refine ⟨_, rfl, _, _, _, _, _, rfl, .ty _, ty_tup h, ktt, _, rfl, iteF ⟨_, rfl, _, _, rfl, .inr (SqT.of h), rfl, _, rfl, iteFd (by rw [dec_int]; rfl) ⟨_, rfl, _, _, _, _, rfl, rfl, SqT.of h, rfl, _, _, _, _, _, rfl, .ty _, ty_str _, kss, _, rfl, iteF ?_⟩⟩⟩
    refine ⟨_, rfl, _, _, _, _, rfl, rfl, SqT.of h, rfl, _, _, rfl, .inr (T.k_OF_ONE _), rfl, rfl, _, rfl, iteFd o1k ?_⟩
    refine ⟨_, rfl, _, _, _, _, rfl, rfl, SqT.of h, rfl, _, _, rfl, .inr (T.k_OF_TWO _), rfl, rfl, _, rfl, iteTd o2k ?_⟩
    exact ⟨_, rfl, _, _, rfl, .inr (SqT.of h), rfl, q _ (Same.refl _)⟩
  | thn t u =>
    obtain ⟨a, x, y, rfl, h, r⟩ := ta
    refine ⟨_, rfl, _, _, _, _, _, rfl, .ty _, ty_tup h, ktt, _, rfl, iteF ⟨_, rfl, _, _, rfl, .inr (SqT.of h), rfl, _, rfl, iteFd (by rw [dec_int]; rfl) ⟨_, rfl, _, _, _, _, rfl, rfl, SqT.of h, rfl, _, _, _, _, _, rfl, .ty _, ty_str _, kss, _, rfl, iteF ?_⟩⟩⟩
    refine ⟨_, rfl, _, _, _, _, rfl, rfl, SqT.of h, rfl, _, _, rfl, .inr (T.k_OF_ONE _), rfl, rfl, _, rfl, iteFd o1t ?_⟩
    refine ⟨_, rfl, _, _, _, _, rfl, rfl, SqT.of h, rfl, _, _, rfl, .inr (T.k_OF_TWO _), rfl, rfl, _, rfl, iteTd o2t ?_⟩
    exact ⟨_, rfl, _, _, rfl, .inr (SqT.of h), rfl, q _ (Same.refl _)⟩
  | late b t =>
    obtain ⟨a, x, rfl, h, r⟩ := ta
    refine ⟨_, rfl, _, _, _, _, _, rfl, .ty _, ty_tup h, ktt, _, rfl, iteF ⟨_, rfl, _, _, rfl, .inr (SqT.of h), rfl, _, rfl, iteFd (by rw [dec_int]; rfl) ⟨_, rfl, _, _, _, _, rfl, rfl, SqT.of h, rfl, _, _, _, _, _, rfl, .ty _, ty_str _, kss, _, rfl, iteF ?_⟩⟩⟩
    refine ⟨_, rfl, _, _, _, _, rfl, rfl, SqT.of h, rfl, _, _, rfl, .inr (T.k_OF_ONE _), rfl, rfl, _, rfl, iteFd o1l ?_⟩
    refine ⟨_, rfl, _, _, _, _, rfl, rfl, SqT.of h, rfl, _, _, rfl, .inr (T.k_OF_TWO _), rfl, rfl, _, rfl, iteFd o2l ?_⟩
    refine ⟨_, rfl, _, _, _, _, rfl, rfl, SqT.of h, rfl, rfl, _, rfl, iteTd (by decide +kernel) ?_⟩
    refine ⟨_, rfl, _, _, rfl, .inr (SqT.of h), rfl, _, rfl, iteTd (by rw [dec_int]; rfl) ?_⟩
    exact ⟨_, rfl, _, _, _, _, rfl, rfl, SqT.of h, rfl, _, rfl, q _ (Same.refl _)⟩
  | byy b1 b2 b3 b4 t u =>
    obtain ⟨a, x, y, rfl, h, r⟩ := ta
    refine ⟨_, rfl, _, _, _, _, _, rfl, .ty _, ty_tup h, ktt, _, rfl, iteF ⟨_, rfl, _, _, rfl, .inr (SqT.of h), rfl, _, rfl, iteFd (by rw [dec_int]; rfl) ⟨_, rfl, _, _, _, _, rfl, rfl, SqT.of h, rfl, _, _, _, _, _, rfl, .ty _, ty_str _, kss, _, rfl, iteF ?_⟩⟩⟩
    refine ⟨_, rfl, _, _, _, _, rfl, rfl, SqT.of h, rfl, _, _, rfl, .inr (T.k_OF_ONE _), rfl, rfl, _, rfl, iteFd o1b ?_⟩
    refine ⟨_, rfl, _, _, _, _, rfl, rfl, SqT.of h, rfl, _, _, rfl, .inr (T.k_OF_TWO _), rfl, rfl, _, rfl, iteFd o2b ?_⟩
    refine ⟨_, rfl, _, _, _, _, rfl, rfl, SqT.of h, rfl, rfl, _, rfl, iteFd (by decide +kernel) ?_⟩
    refine ⟨_, rfl, _, _, _, _, rfl, rfl, SqT.of h, rfl, rfl, _, rfl, iteTd (by decide +kernel) ?_⟩
    refine ⟨_, rfl, _, _, rfl, .inr (SqT.of h), rfl, _, rfl, iteTd (by rw [dec_int]; rfl) ?_⟩
    refine ⟨_, rfl, _, _, _, _, rfl, rfl, SqT.of h, rfl, _, rfl, by simp, fun H1 sm => ⟨_, rfl, iteT ?_⟩⟩
    exact ⟨_, rfl, _, _, _, _, rfl, rfl, SqT.of (sm _ _ h), rfl, _, rfl, by rw [tx_len]; exact small5 (by simp), rfl, q _ sm⟩
end
end FY


set_option Elab.async false
set_option linter.all false
set_option pp.maxSteps 4000
set_option maxRecDepth 100000
set_option maxHeartbeats 4000000
namespace FY
open PySem L2 FYR
def sumN : List Tm → Nat
  | [] => 0
  | t :: r => t.nodes + sumN r
theorem sumN_app : ∀ a b : List Tm, sumN (a ++ b) = sumN a + sumN b
  | [], b => by simp [sumN]
  | t :: a, b => by simp [sumN, sumN_app a b]; omega
theorem sumN_parts (t : Tm) : sumN t.parts + 1 = t.nodes := by cases t <;> simp [Tm.parts, sumN, Tm.nodes] <;> omega
theorem sumN_len : ∀ ts : List Tm, ts.length ≤ sumN ts
  | [] => by simp
  | t :: r => by have := sumN_len r; have := t.nodes_pos; simp [sumN]; omega
theorem sumN_mem : ∀ (ts : List Tm) (t : Tm), t ∈ ts → t.nodes ≤ sumN ts
  | [], _, h => by simp at h
  | u :: r, t, h => by
    rcases List.mem_cons.mp h with rfl | h
    · simp [sumN]
    · have := sumN_mem r t h; simp [sumN]; omega
theorem dpAll {K : PySem.W.Frag} {H : Hp} : ∀ {ws : List V} {ts : List Tm}, Paired (TA H) ws ts → DpAll K H ws (ts.map Tm.data)
  | _, _, .nil => .nil
  | _, _, .cons r q => .cons r.dp (dpAll q)
theorem layAll : ∀ ts : List Tm, PyData.canLayAll0 (ts.map Tm.data) = true
  | [] => rfl
  | t :: r => by simp [PyData.canLayAll0, lay_tm, layAll r]
theorem depAll : ∀ ts : List Tm, PyData.depthAll (ts.map Tm.data) ≤ sumN ts
  | [] => by simp [PyData.depthAll]
  | t :: r => by have := depAll r; have := depth_tm t; simp [PyData.depthAll, sumN]; omega
theorem shpAll {ts : List Tm} (h : sumN ts ≤ 40) : SeqAt.shaped (.list (ts.map Tm.data)) = true := by
  unfold SeqAt.shaped
  have := depAll ts
  simp [PyData.canLay0, layAll, PyData.depth]
  omega
theorem shpNil : SeqAt.shaped (.list []) = true := by decide +kernel
theorem eqvNil (ts : List Tm) : PyData.eqv (.list (ts.map Tm.data)) (.list []) = ts.isEmpty := by
  cases ts <;> simp [PyData.eqv, PyData.eqvAll]
theorem paired_len {α β : Type} {R : α → β → Prop} : ∀ {a : List α} {b : List β}, Paired R a b → a.length = b.length
  | _, _, .nil => rfl
  | _, _, .cons _ q => by simp [paired_len q]
theorem paired_app {α β : Type} {R : α → β → Prop} : ∀ {a : List α} {b : List β} {c : List α} {d : List β}, Paired R a b → Paired R c d → Paired R (a ++ c) (b ++ d)
  | _, _, _, _, .nil, q => q
  | _, _, _, _, .cons r p, q => .cons r (paired_app p q)
/-- the last one -/
theorem paired_last {α β : Type} {R : α → β → Prop} {a : List α} {b : List β} (h : Paired R a b) (hb : b ≠ []) : ∃ a0 x b0 y, a = a0 ++ [x] ∧ b = b0 ++ [y] ∧ Paired R a0 b0 ∧ R x y := by
  induction h with
  | nil => exact absurd rfl hb
  | @cons x y as bs r q ih =>
    cases q with
    | nil => exact ⟨[], x, [], y, rfl, rfl, .nil, r⟩
    | cons r2 q2 =>
      obtain ⟨a0, x', b0, y', e1, e2, p, rr⟩ := ih (by simp)
      exact ⟨x :: a0, x', y :: b0, y', by rw [e1]; rfl, by rw [e2]; rfl, .cons r p, rr⟩
theorem _root_.L2.Same.trans' {H H1 H2 : Hp} (a : Same H H1) (b : Same H1 H2) : Same H H2 := fun x o e => b x o (a x o e)
theorem same_at {H H1 : Hp} {L : Addr} {o : HO} (a : Same H H1) (h : H L = none) : Same H (upd H1 L o) := fun b u e => by
  rw [upd_ne (ne_of_none e h)]
  exact a b u e
theorem tups_at {H1 : Hp} {L : Addr} {xs : List V} {o : HO} (h : H1 L = some (.lst xs)) : Tups H1 (upd H1 L o) := fun b ys e => by
  have : b ≠ L := fun q => by rw [q, h] at e; cases e
  rw [upd_ne this]
  exact e
def intAt (σ : St) (i : Nat) : Nat := match σ[i]? with
  | some (some (V.int m)) => m.toNat
  | _ => 0
theorem sz1 : 1 ≤ sizeLine := by decide
section
variable {P : Program} {w : World} {K : PySem.W.Frag} {mg : Str → Option Value} {base : Heap} {aS a1 a2 : Addr} {f : Addr} {fd : FuncData}
abbrev s_is_term : Stmt := top 52
abbrev N_is_term : List Str := ["value", "waiting", "many", "node"]
theorem sc_is_term : FnScope N_is_term ["value"] (defScope s_is_term) := ⟨rfl, rfl, rfl, by decide +kernel, rfl, by decide +kernel, by decide +kernel⟩
theorem ok_is_term (F : Fun K "is_term" "is_term" s_is_term f fd) (T : Txt K mg aS a1 a2) (c_has_shape : C8.Cal P w K mg base 2 "has_shape" spHasShape []) (c_parts_of : C8.Cal P w K mg base 1 "parts_of" spPartsOf []) : FnOk P w K mg base CX0 3 f fd ["value"] spIsTerm := by
  refine F.ok sc_is_term (fun vs H Q E h => ?_) (fun cdv A outer s H vs Q E hr h => ?_)
  · obtain ⟨b, t, rfl, _⟩ := h
    rfl
  obtain ⟨v, t, rfl, ta, hn, q⟩ := h
  refine ⟨_, (pss_cons (ps_par (i := 1) (j := 2) rfl sc_is_term.nd rfl rfl (by decide) rfl rfl (pa_cons (pe_lst (pa_cons (pv 0) pa_nil)) (pa_cons pe_int pa_nil)) rfl)
        (pss_cons (ps_while PassesOwn.never (pt_cmpR (kNeD K rfl hr.units) (pv 1) (pe_lst pa_nil) (nomark _))
        (pss_cons (ps_set (i := 3) sc_is_term.nd rfl (Or.inl rfl) (kBm0 K rfl PySem.F.plainAttrs_list PySem.F.slot_list_pop PySem.F.type_list_pop mt_pop (pv 1)))
        (pss_cons (ps_aug (i := 2) sc_is_term.nd rfl (Or.inl rfl) pe_int ip_add)
        (pss_cons (ps_if (pt_cmpR op_gt (pv 2) (C8.pe_gc rfl T.g_MOST_NODES) (nomark _))
        (pss_one (ps_ret pe_bl))
        pss_nil)
        (pss_one (ps_if (pt_not (pt_val (pe_callB (kIsi K rfl) rfl T.b_isinstance bt_isinstance (pa_cons (pv 3) (pa_cons (pTy rfl T.b_str bt_str) pa_nil)))))
        (pss_cons (ps_if (pt_not (pt_val (C8.pe_c c_has_shape hr (by decide) rfl (pa_cons (pv 3) pa_nil))))
        (pss_one (ps_ret pe_bl))
        pss_nil)
        (pss_one (ps_expr (kBm K rfl PySem.F.plainAttrs_list PySem.F.slot_list_extend PySem.F.type_list_extend (kExtT K rfl) (pv 1) (pa_cons (C8.pe_c c_parts_of hr (by decide) rfl (pa_cons (pv 3) pa_nil)) pa_nil)))))
        (pss_one (ps_if (pt_cmpR (kNeD K rfl hr.units) (pv 3) (C8.pe_gc rfl T.g_IN) (nomark _))
        (pss_one (ps_ret pe_bl))
        pss_nil))))))))
        (pss_one (ps_ret pe_bl)))), ?_⟩
  refine ⟨_, rfl, sz1, fun L hL => ⟨_, _, rfl, ?_⟩⟩
  refine while_by (fun σ H' => ∃ (ws : List V) (ts : List Tm) (m : Nat) (z : Option V), σ = [some v, some (.ref L), some (.int m), z] ∧ H' L = some (.lst ws) ∧ Paired (TA H') ws ts ∧ m + sumN ts = t.nodes ∧ m ≤ 9 ∧ Same H H')
    (fun σ _ => 100 - intAt σ 2) ?h0 ?hs ?mono
  case h0 => exact ⟨[v], [t], 0, _, rfl, upd_same, .cons (ta.keep (Tups.of (same_new hL _))) .nil, by simp [sumN], by omega, same_new hL _⟩
  case mono => exact fun σ H Q Q' m ⟨v, e, hl, f⟩ => ⟨v, e, hl, fun p hp => let ⟨d, e, h1, h2, h3, h4, b, hb, q⟩ := f p hp; ⟨d, e, h1, h2, h3, h4, b, hb, m _ _ q⟩⟩
  case hs =>
    rintro σ H1 ⟨ws, ts, m, z, rfl, hl, hp, hm, h9, sm⟩
    refine ⟨_, rfl, by decide, fun p0 hp0 => ?_⟩
    have k0 := same_new hp0 (.lst [])
    refine ⟨_, _, .lst (SqL.of (k0 _ _ hl)) (dpAll (paired_keep (Tups.of k0) hp)), .lst (SqL.of upd_same) .nil, shpAll (by omega), shpNil, _, rfl, ?_⟩
    rw [eqvNil]
    cases hts : ts with
    | nil =>
      subst hts
      refine iteFd rfl ?_
      have e : decide (t.nodes ≤ 9) = true := by simp [sumN] at hm; simp; omega
      have z := q _ (sm.trans' k0)
      rw [e] at z
      exact z
    | cons t0 r0 => 
      rw [← hts]
      have hne : ts ≠ [] := by rw [hts]; simp
      refine iteTd (by rw [hts]; rfl) ?_
      clear hts
      obtain ⟨ws0, x, ts0, y, rfl, rfl, hp1, hx⟩ := paired_last hp hne
      refine ⟨_, rfl, .inl ⟨rfl, _, SqL.of (k0 _ _ hl)⟩, _, _, x, rfl, rfl, k0 _ _ hl, by simp, ?_⟩
      rw [List.dropLast_concat]
      have hl2 : upd (upd H1 p0 (.lst [])) L (.lst ws0) L = some (.lst ws0) := upd_same
      have sm2 : Same H (upd (upd H1 p0 (.lst [])) L (.lst ws0)) := same_at (sm.trans' k0) hL
      have tu2 : Tups H1 (upd (upd H1 p0 (.lst [])) L (.lst ws0)) := (Tups.of k0).trans (tups_at (k0 _ _ hl))
      generalize upd (upd H1 p0 (.lst [])) L (.lst ws0) = H2 at *
      have hx2 := hx.keep tu2
      have hp2 := paired_keep tu2 hp1
      rw [sumN_app] at hm
      have hy0 : sumN [y] = y.nodes := by simp [sumN]
      have hy := y.nodes_pos
      refine ⟨_, rfl, _, _, rfl, rfl, ?_⟩
      refine ⟨_, rfl, _, _, rfl, rfl, _, rfl, ?_⟩
      by_cases m9 : m = 9
      · refine iteTd (by simp; omega) ?_
        have e : decide (t.nodes ≤ 9) = false := by simp; omega
        have z := q _ sm2
        rw [e] at z
        exact z
      refine iteFd (by simp; omega) ?_
      cases hin : y.isIn with
      | true =>
        have hyi : y = .inn := by cases y <;> first | rfl | cases hin
        subst hyi
        cases (show x = .str "in" from hx2)
        refine ⟨_, rfl, _, _, _, _, _, rfl, .ty _, ty_str _, kss, _, rfl, iteF ?_⟩
        refine ⟨_, rfl, _, _, .str _, .str _, shp_in, shp_in, _, rfl, iteFd (by decide +kernel) ?_⟩
        refine ⟨⟨ws0, ts0, m + 1, _, rfl, hl2, hp2, by have : Tm.inn.nodes = 1 := rfl; omega, by omega, sm2⟩, ?_⟩
        show 100 - ((m : Int) + 1).toNat < 100 - (m : Int).toNat
        omega
      | false =>
        obtain ⟨a, us, rfl, ha, hpa⟩ := hx2.node hin
        refine ⟨_, rfl, _, _, _, _, _, rfl, .ty _, ty_tup ha, kts, _, rfl, iteT ?_⟩
        refine ⟨_, rfl, _, y, rfl, hx2, hin, fun H3 s3 => ⟨_, rfl, iteF ?_⟩⟩
        refine ⟨_, rfl, .inl ⟨rfl, _, SqL.of (s3 _ _ hl2)⟩, _, rfl, _, y, rfl, hx2.keep (Tups.of s3), Nat.le_trans y.dep_le (by omega), fun H4 p ws' s4 hp4 pr4 => ?_⟩
        have hl4 := s4 _ _ (s3 _ _ hl2)
        have hwl := paired_len hp2
        have hwl' := paired_len pr4
        have l1 := sumN_len ts0
        have l2 := sumN_len y.parts
        have l3 := sumN_parts y
        have tu4 : Tups H2 (upd H4 L (.lst (ws0 ++ ws'))) := (Tups.of (s3.trans' s4)).trans (tups_at hl4)
        refine ⟨_, _, _, _, rfl, rfl, hl4, SqT.of hp4, small5 (by omega), ?_⟩
        refine ⟨⟨ws0 ++ ws', ts0 ++ y.parts, m + 1, _, rfl, upd_same, paired_app (paired_keep tu4 hp2) (paired_keep (tups_at hl4) pr4), by rw [sumN_app]; omega, by omega, same_at ((sm2.trans' s3).trans' s4) hL⟩, ?_⟩
        show 100 - ((m : Int) + 1).toNat < 100 - (m : Int).toNat
        omega
abbrev s_want_term : Stmt := top 53
abbrev N_want_term : List Str := ["value"]
theorem sc_want_term : FnScope N_want_term ["value"] (defScope s_want_term) := ⟨rfl, rfl, rfl, by decide +kernel, rfl, by decide +kernel, by decide +kernel⟩
theorem ok_want_term (F : Fun K "want_term" "want_term" s_want_term f fd) (T : Txt K mg aS a1 a2) (c_is_term : C8.Cal P w K mg base 3 "is_term" spIsTerm []) : FnOk P w K mg base CX0 4 f fd ["value"] spWantTerm := by
  refine F.ok sc_want_term (fun vs H Q E h => ?_) (fun cdv A outer s H vs Q E hr h => ?_)
  · obtain ⟨b, t, rfl, _⟩ := h
    rfl
  obtain ⟨v, t, rfl, ta, hn, q⟩ := h
  refine ⟨_, (pss_one (ps_if (pt_not (pt_val (C8.pe_c c_is_term hr (by decide) rfl (pa_cons (pv 0) pa_nil))))
        (pss_one ps_never)
        pss_nil)), ?_⟩
  refine ⟨_, rfl, _, t, rfl, ta, by omega, fun H1 sm => ⟨_, rfl, ?_⟩⟩
  rw [decide_eq_true hn]
  exact iteF (q _ sm)
end
/-! ## flows' parts -/
def spHalf : Sp := fun vs H Q _ => ∃ bs, vs = [.str (tx bs)] ∧ bs.length ≤ 100000 ∧ Q (.str (tx (halfL bs))) H
def spChanges : Sp := fun vs H Q _ => ∃ bs, vs = [.str (tx bs)] ∧ bs.length ≤ 100000 ∧ ∀ H', Same H H' → Q (.str (tx (chgL false bs))) H'
def spCounts : Sp := fun vs H Q _ => ∃ bs, vs = [.str (tx bs)] ∧ bs.length ≤ 100000 ∧ ∀ H', Same H H' → Q (.str (tx (cntL false bs))) H'
def spTurned : Sp := fun vs H Q _ => ∃ b, vs = [.str (sgn b)] ∧ Q (.str (sgn (!b))) H
section
variable {P : Program} {w : World} {K : PySem.W.Frag} {mg : Str → Option Value} {base : Heap} {aS a1 a2 : Addr} {f : Addr} {fd : FuncData}
end
end FY


set_option Elab.async false
set_option linter.all false
set_option maxRecDepth 100000
set_option maxHeartbeats 4000000
namespace FY
open PySem L2 FYR
abbrev vs (b : Bool) : V := .str (sgn b)
def b2i (b : Bool) : Int := if b then 1 else 0
theorem sg_ne (x y : Bool) : (!decide (V.str ⟨#[cd x]⟩ = V.str ⟨#[cd y]⟩)) = (x != y) := by cases x <;> cases y <;> decide +kernel
theorem sg_eq (x y : Bool) : decide (V.str ⟨#[cd x]⟩ = V.str ⟨#[cd y]⟩) = (x == y) := by cases x <;> cases y <;> decide +kernel
theorem take_one {α β : Type} (f : α → β) {l : List α} {i : Nat} {x : α} (h : l[i]? = some x) : (l.take i).map f ++ [f x] = (l.take (i + 1)).map f := by
  rw [List.take_succ, h]
  simp
theorem chg_get : ∀ (bs : List Bool) (l : Bool) (i : Nat) (x y : Bool), bs[i]? = some x → (l :: bs)[i]? = some y → (chgL l bs)[i]? = some (x != y)
  | [], l, i, x, y, h, _ => by simp at h
  | b :: r, l, 0, x, y, h, h2 => by simp at h h2; subst h; subst h2; simp [chgL]
  | b :: r, l, i + 1, x, y, h, h2 => by
    simp only [List.getElem?_cons_succ] at h h2
    simp only [chgL, List.getElem?_cons_succ]
    exact chg_get r b i x y h h2
theorem cnt_get : ∀ (bs : List Bool) (l : Bool) (i : Nat) (x y : Bool), bs[i]? = some x → (l :: cntL l bs)[i]? = some y → (cntL l bs)[i]? = some (x != y)
  | [], l, i, x, y, h, _ => by simp at h
  | b :: r, l, 0, x, y, h, h2 => by simp at h h2; subst h; subst h2; simp [cntL]
  | b :: r, l, i + 1, x, y, h, h2 => by
    simp only [List.getElem?_cons_succ] at h
    simp only [cntL, List.getElem?_cons_succ] at h2 ⊢
    exact cnt_get r (b != l) i x y h h2
theorem jsum : ∀ bs : List Bool, ((bs.map sgn).map (·.length)).sum = bs.length
  | [] => rfl
  | b :: r => by
    have := jsum r
    simp only [List.map_cons, List.sum_cons, List.length_cons, this]
    have : (sgn b).length = 1 := rfl
    omega
theorem joinEnd {K : PySem.W.Frag} {H : Hp} {D : Addr} {bs : List Bool} {R : VK} (h : H D = some (.lst (bs.map vs))) (hl : bs.length ≤ 100000) (q : R (.str (tx bs)) H) : rJoin K (.str "") [.ref D] H R := by
  refine ⟨"", D, bs.map sgn, rfl, rfl, .inl (SqL.of (by rw [h, List.map_map]; rfl)), ?_, ?_⟩
  · rw [jsum, show ("" : Str).length = 0 from rfl]
    omega
  · rw [se, join_sgn]
    exact q
theorem tx_char {bs : List Bool} {i c : Nat} (h : (tx bs).cps[i]? = some c) : ∃ b, bs[i]? = some b ∧ c = cd b := by
  rw [tx_get] at h
  obtain ⟨b, hb, rfl⟩ := Option.map_eq_some_iff.mp h
  exact ⟨b, hb, rfl⟩
theorem sl640 (c : Nat) : ({ cps := #[c] } : Str).length ≤ 640 := by
  show 1 ≤ 640
  decide
theorem lt_len {α : Type} {l : List α} {i : Nat} {x : α} (h : l[i]? = some x) : i < l.length := (List.getElem?_eq_some_iff.mp h).1
theorem take_len_le {α β : Type} (f : α → β) (l : List α) (i : Nat) (hl : i < 100000) : ((l.take i).map f).length < sizeLine := by
  rw [List.length_map, List.length_take]
  exact Nat.lt_of_lt_of_le (show min i l.length < 100000 by omega) (by decide)
theorem flat_dbl : ∀ bs : List Bool, (bs.map fun b => [b, b]).flatten = dblL bs
  | [] => rfl
  | b :: r => by
    have h := flat_dbl r
    simp only [List.map_cons, List.flatten_cons, dblL, ← h]
    rfl
theorem jsumL : ∀ ys : List (List Bool), ((ys.map tx).map (·.length)).sum = ys.flatten.length
  | [] => rfl
  | y :: r => by
    have := jsumL r
    simp only [List.map_cons, List.sum_cons, List.flatten_cons, List.length_append, this, tx_len]
theorem joinEndL {K : PySem.W.Frag} {H : Hp} {D : Addr} {ys : List (List Bool)} {R : VK} (h : H D = some (.lst (ys.map fun y => V.str (tx y)))) (hl : ys.flatten.length ≤ 1000000) (q : R (.str (tx ys.flatten)) H) : rJoin K (.str "") [.ref D] H R := by
  refine ⟨"", D, ys.map tx, rfl, rfl, .inl (SqL.of (by rw [h, List.map_map]; rfl)), ?_, ?_⟩
  · rw [jsumL, show ("" : Str).length = 0 from rfl]
    omega
  · rw [se, join_tx]
    exact q
theorem by_get (a b c d : Bool) : ∀ (f g : List Bool) (i : Nat) (x y : Bool), f[i]? = some x → g[i]? = some y → (byL a b c d f g)[i]? = some (if x then (if y then d else c) else (if y then b else a))
  | [], g, i, x, y, h, _ => by simp at h
  | _ :: _, [], i, x, y, _, h => by simp at h
  | u :: r, v :: s, 0, x, y, h, h2 => by simp at h h2; subst h; subst h2; simp [byL]
  | u :: r, v :: s, i + 1, x, y, h, h2 => by
    simp only [List.getElem?_cons_succ] at h h2
    simp only [byL, List.getElem?_cons_succ]
    exact by_get a b c d r s i x y h h2
theorem by_len (a b c d : Bool) : ∀ (f g : List Bool), (byL a b c d f g).length = min f.length g.length
  | [], g => by simp [byL]
  | _ :: _, [] => by simp [byL]
  | u :: r, v :: s => by
    have := by_len a b c d r s
    simp only [byL, List.length_cons, this]
    omega
theorem keep_snoc : ∀ (f g : List Bool) (i : Nat) (x y : Bool), f[i]? = some x → g[i]? = some y → keepL (f.take (i + 1)) (g.take (i + 1)) = keepL (f.take i) (g.take i) ++ (if y then [x] else [])
  | [], g, i, x, y, h, _ => by simp at h
  | _ :: _, [], i, x, y, _, h => by simp at h
  | u :: r, v :: s, 0, x, y, h, h2 => by simp at h h2; subst h; subst h2; cases v <;> simp [keepL]
  | u :: r, v :: s, i + 1, x, y, h, h2 => by
    simp only [List.getElem?_cons_succ] at h h2
    have := keep_snoc r s i x y h h2
    rw [List.take_succ_cons, List.take_succ_cons, List.take_succ_cons, List.take_succ_cons]
    cases v
    · simp only [keepL]; exact this
    · simp only [keepL, if_true, this]; rfl
theorem keep_all : ∀ (f g : List Bool), keepL (f.take (min f.length g.length)) (g.take (min f.length g.length)) = keepL f g
  | [], g => by simp [keepL]
  | _ :: _, [] => by simp [keepL]
  | u :: r, v :: s => by
    have := keep_all r s
    rw [show min (u :: r).length (v :: s).length = min r.length s.length + 1 by simp only [List.length_cons]; omega, List.take_succ_cons, List.take_succ_cons]
    cases v
    · simp only [keepL]; exact this
    · simp only [keepL, this]
def spOfOne : Sp := fun vs H Q _ => ∃ v t bs, vs = [v, .str (tx bs)] ∧ TA H v t ∧ t.parts.length = 1 ∧ bs.length ≤ 40000 ∧ ∀ H', Same H H' → Q (.str (tx (op1 t bs))) H'
def spOfTwo : Sp := fun vs H Q _ => ∃ v t fs gs, vs = [v, .str (tx fs), .str (tx gs)] ∧ TA H v t ∧ t.parts.length = 2 ∧ t.word ≠ "then" ∧ fs.length ≤ 40000 ∧ ∀ H', Same H H' → Q (.str (tx (op2 t fs gs))) H'

def spFlowBy (n : Nat) : Sp := fun vs H Q _ => ∃ v t bs, vs = [v, .str (tx bs)] ∧ TA H v t ∧ t.nodes ≤ n ∧ t.nodes ≤ 9 ∧ 2 ^ (t.nodes - 1) * bs.length ≤ 8000 ∧ ∀ H', Same H H' → Q (.str (tx (flow t bs))) H'
def spFlowOf : Sp := fun vs H Q _ => ∃ v t bs, vs = [v, .str (tx bs)] ∧ TA H v t ∧ t.nodes ≤ 9 ∧ bs.length ≤ 1000 ∧ 2 ^ (t.nodes - 1) * bs.length ≤ 8000 ∧ ∀ H', Same H H' → Q (.str (tx (flow t bs))) H'
theorem pow_le {a b n : Nat} (h : a ≤ b) (hb : 2 ^ b * n ≤ 8000) : 2 ^ a * n ≤ 8000 := Nat.le_trans (Nat.mul_le_mul_right n (Nat.pow_le_pow_right (by decide) h)) hb
theorem thn_le {t u : Tm} {bs : List Bool} (hb : 2 ^ (t.nodes + u.nodes + 1 - 1) * bs.length ≤ 8000) : 2 ^ (u.nodes - 1) * (flow t bs).length ≤ 8000 := by
  have h1 := flow_len t bs
  have h3 := t.nodes_pos
  have h4 := u.nodes_pos
  have e1 := Nat.mul_le_mul_left (2 ^ (u.nodes - 1)) h1
  rw [← Nat.mul_assoc, ← Nat.pow_add] at e1
  exact Nat.le_trans e1 (pow_le (by omega) hb)
theorem flow_8000 {t : Tm} {bs : List Bool} (hb : 2 ^ (t.nodes - 1) * bs.length ≤ 8000) : (flow t bs).length ≤ 8000 := Nat.le_trans (flow_len t bs) hb
theorem flow_op1 (t : Tm) (bs : List Bool) (u : Tm) (h : t.parts = [u]) : flow t bs = op1 t (flow u bs) := by
  cases t <;> simp [Tm.parts] at h <;> subst h <;> rfl
theorem flow_op2 (t : Tm) (bs : List Bool) (u v : Tm) (h : t.parts = [u, v]) (hw : t.word ≠ "then") : flow t bs = op2 t (flow u bs) (flow v bs) := by
  cases t <;> simp [Tm.parts] at h
  · obtain ⟨rfl, rfl⟩ := h; rfl
  · obtain ⟨rfl, rfl⟩ := h; rfl
  · exact absurd rfl hw
theorem parts_two (t : Tm) (h : t.isIn = false) : (∃ u, t.parts = [u]) ∨ ∃ u v, t.parts = [u, v] := by
  cases t with
  | inn => cases h
  | one _ _ => exact .inl ⟨_, rfl⟩
  | late _ _ => exact .inl ⟨_, rfl⟩
  | _ => exact .inr ⟨_, _, rfl⟩
theorem parts_nodes {t u : Tm} (h : u ∈ t.parts) : u.nodes + 1 ≤ t.nodes := by
  have := sumN_parts t
  have := sumN_mem _ _ h
  omega
theorem paired_get {α β : Type} {R : α → β → Prop} {a : List α} {b : List β} (h : Paired R a b) {i : Nat} {x : α} (hx : a[i]? = some x) : ∃ y, b[i]? = some y ∧ R x y := by
  induction h generalizing i with
  | nil => simp at hx
  | cons r q ih =>
    cases i with
    | zero => simp at hx; subst hx; exact ⟨_, rfl, r⟩
    | succ i => exact ih hx
def Tm.isThn : Tm → Bool | .thn _ _ => true | _ => false
theorem word_then (t : Tm) : decide (V.str t.word = V.str "then") = t.isThn := by
  cases t with
  | one w t => 
    cases w with
    | no => exact (by decide +kernel : decide (V.str ("not" : Str) = V.str ("then" : Str)) = false)
    | twice => exact (by decide +kernel : decide (V.str ("twice" : Str) = V.str ("then" : Str)) = false)
    | half => exact (by decide +kernel : decide (V.str ("half" : Str) = V.str ("then" : Str)) = false)
    | change => exact (by decide +kernel : decide (V.str ("change" : Str) = V.str ("then" : Str)) = false)
    | count => exact (by decide +kernel : decide (V.str ("count" : Str) = V.str ("then" : Str)) = false)
  | inn => exact (by decide +kernel : decide (V.str ("in" : Str) = V.str ("then" : Str)) = false)
  | late _ _ => exact (by decide +kernel : decide (V.str ("late" : Str) = V.str ("then" : Str)) = false)
  | byy _ _ _ _ _ _ => exact (by decide +kernel : decide (V.str ("by" : Str) = V.str ("then" : Str)) = false)
  | keep _ _ => exact (by decide +kernel : decide (V.str ("keep" : Str) = V.str ("then" : Str)) = false)
  | thn _ _ => exact (by decide +kernel : decide (V.str ("then" : Str) = V.str ("then" : Str)) = true)
theorem at0 {α : Type} {x : α} {xs : List α} : atI (x :: xs) 0 = some x := by
  unfold atI ixN
  simp

theorem hu1 {k : Nat} {A : Around} (r : Room k A) : A.units + 1 < cLine := by have := r.units; omega
theorem sg_ne' (x y : Bool) : (!decide (V.str ⟨#[cd x]⟩ = V.str (sgn y))) = (x != y) := sg_ne x y
theorem upd_upd {H : Hp} {p : Addr} {o o' : HO} : upd (upd H p o) p o' = upd H p o' := by
  funext b
  by_cases h : b = p
  · rw [h, upd_same, upd_same]
  · rw [upd_ne h, upd_ne h, upd_ne h]

def spFlowL (n : Nat) : Sp := fun vs H Q _ => ∃ v t bs, vs = [v, .str (tx bs)] ∧ TA H v t ∧ t.nodes ≤ n ∧ t.nodes ≤ 40 ∧ 2 ^ (t.nodes - 1) * bs.length ≤ 40000 ∧ ∀ H', Same H H' → Q (.str (tx (flow t bs))) H'
theorem powL {a b n : Nat} (h : a ≤ b) (hb : 2 ^ b * n ≤ 40000) : 2 ^ a * n ≤ 40000 := Nat.le_trans (Nat.mul_le_mul_right n (Nat.pow_le_pow_right (by decide) h)) hb
theorem thnL {t u : Tm} {bs : List Bool} (hb : 2 ^ (t.nodes + u.nodes + 1 - 1) * bs.length ≤ 40000) : 2 ^ (u.nodes - 1) * (flow t bs).length ≤ 40000 := by
  have h1 := flow_len t bs
  have h3 := t.nodes_pos
  have h4 := u.nodes_pos
  have e1 := Nat.mul_le_mul_left (2 ^ (u.nodes - 1)) h1
  rw [← Nat.mul_assoc, ← Nat.pow_add] at e1
  exact Nat.le_trans e1 (powL (by omega) hb)
theorem flowL {t : Tm} {bs : List Bool} (hb : 2 ^ (t.nodes - 1) * bs.length ≤ 40000) : (flow t bs).length ≤ 40000 := Nat.le_trans (flow_len t bs) hb
theorem sz2 {a b : V} : [a, b].length ≤ sizeLine := (by decide : 2 ≤ sizeLine)
theorem oNw (w : W1) : (if true = true then !inV (.str w.s) [.str "by", .str "keep"] else inV (.str w.s) [.str "by", .str "keep"]) = true := by cases w <;> decide +kernel
theorem oNl : (if true = true then !inV (.str "late") [.str "by", .str "keep"] else inV (.str "late") [.str "by", .str "keep"]) = true := by decide +kernel
theorem oNb : (if true = true then !inV (.str "by") [.str "by", .str "keep"] else inV (.str "by") [.str "by", .str "keep"]) = false := by decide +kernel
theorem oNk : (if true = true then !inV (.str "keep") [.str "by", .str "keep"] else inV (.str "keep") [.str "by", .str "keep"]) = false := by decide +kernel
theorem _root_.List.getElem?_map_some {α β : Type} {f : α → β} {l : List α} {i : Nat} {y : β} (h : (l.map f)[i]? = some y) : ∃ x, l[i]? = some x ∧ y = f x := by
  rw [List.getElem?_map] at h
  obtain ⟨x, hx, rfl⟩ := Option.map_eq_some_iff.mp h
  exact ⟨x, hx, rfl⟩
theorem zipV_get {f g : List Bool} {i : Nat} {q : V × V} (h : (zipV (tx f) (tx g))[i]? = some q) : ∃ x y, f[i]? = some x ∧ g[i]? = some y ∧ q = (.str ⟨#[cd x]⟩, .str ⟨#[cd y]⟩) := by
  unfold zipV at h
  obtain ⟨p, hp, rfl⟩ := List.getElem?_map_some h
  rw [tx_toList, tx_toList, List.getElem?_zip_eq_some] at hp
  obtain ⟨h1, h2⟩ := hp
  obtain ⟨x, hx, e1⟩ := List.getElem?_map_some h1
  obtain ⟨y, hy, e2⟩ := List.getElem?_map_some h2
  exact ⟨x, y, hx, hy, by rw [e1, e2]; rfl⟩
def spNodes (n : Nat) : Sp := fun vs H Q _ => ∃ v t, vs = [v] ∧ TA H v t ∧ t.dep ≤ n ∧ t.dep ≤ 60 ∧ ∀ H', Same H H' → Q (.int t.nodes) H'
theorem extra_not (t : Tm) (z : Str) (h : z ∈ t.extra) : PyData.eqv (.str z) (.str "in") = false ∧ SeqAt.shaped (.str z) = true := by
  cases t with
  | late b t =>
    simp [Tm.extra] at h
    subst h
    cases b <;> exact ⟨by decide +kernel, by decide +kernel⟩
  | byy a b c d t u =>
    simp [Tm.extra] at h
    subst h
    cases a <;> cases b <;> cases c <;> cases d <;> exact ⟨by decide +kernel, by decide +kernel⟩
  | _ => simp [Tm.extra] at h
theorem cut1 (x : V) (xs : List V) : cutV (x :: xs) (some 1) none = xs := by
  unfold cutV
  rw [HT.sIx_none, show HT.sIx (x :: xs).length 0 (some 1) = 1 by
    have := HT.sIx_nat (x :: xs).length 0 1
    simp only [List.length_cons] at this ⊢
    rw [show ((1 : Nat) : Int) = 1 from rfl] at this
    rw [this]; omega]
  simp
theorem nwh (x : V) (xs : List V) {p : Prop} : ¬ (HT.sIx (x :: xs).length 0 (some 1) = 0 ∧ p) := by
  have := HT.sIx_nat (x :: xs).length 0 1
  rw [show ((1 : Nat) : Int) = 1 from rfl] at this
  rw [this]
  simp only [List.length_cons]
  omega
theorem extra_le (t : Tm) : t.extra.length ≤ 1 := by cases t <;> simp [Tm.extra]
theorem sum_nodes : ∀ ts : List Tm, (ts.map fun t => (t.nodes : Int)).sum = sumN ts
  | [] => rfl
  | t :: r => by simp [sumN, sum_nodes r]

end FY


set_option Elab.async false
set_option linter.all false
set_option maxRecDepth 100000
set_option maxHeartbeats 4000000
namespace FY
open PySem L2 FYR
/-- all but p stays -/
def Kp (p : Addr) (H H' : Hp) : Prop := ∀ b o, b ≠ p → H b = some o → H' b = some o
def Pot (p : Addr) (H : Hp) : Prop := ∃ a b : Int, H p = some (.lst [.int a, .int b]) ∧ 0 ≤ a ∧ 0 ≤ b ∧ b < 2147483563
theorem Kp.refl (p : Addr) (H : Hp) : Kp p H H := fun _ _ _ h => h
theorem Kp.trans {p : Addr} {H H1 H2 : Hp} (a : Kp p H H1) (b : Kp p H1 H2) : Kp p H H2 := fun x o n e => b x o n (a x o n e)
theorem Kp.of {p : Addr} {H H' : Hp} (s : Same H H') : Kp p H H' := fun b o _ e => s b o e
theorem Pot.tups {p : Addr} {H H' : Hp} (a : Pot p H) (k : Kp p H H') : Tups H H' := fun b xs e => by
  obtain ⟨_, _, h, _⟩ := a
  refine k b _ (fun z => ?_) e
  rw [z, h] at e
  cases e
theorem Pot.same {p : Addr} {H H' : Hp} (a : Pot p H) (s : Same H H') : Pot p H' := by
  obtain ⟨x, y, h, r⟩ := a
  exact ⟨x, y, s _ _ h, r⟩
theorem Pot.ne {p q : Addr} {H : Hp} (a : Pot p H) (h : H q = none) : q ≠ p := fun z => by
  obtain ⟨_, _, e, _⟩ := a
  rw [z, e] at h
  cases h
theorem kp_new {p q : Addr} {H : Hp} (h : H q = none) (o : HO) : Kp p H (upd H q o) := Kp.of (same_new h o)
theorem kp_upd {p : Addr} {H : Hp} (o : HO) : Kp p H (upd H p o) := fun b u n e => by rw [upd_ne n]; exact e
def spDraw : Sp := fun vs H Q _ => ∃ p n, vs = [.ref p, .int n] ∧ Pot p H ∧ 0 < n ∧ n < 1073741824 ∧ ∀ (d : Int) (H' : Hp), 0 ≤ d → d < n → Kp p H H' → Pot p H' → Q (.int d) H'
def spPick : Sp := fun vs H Q _ => ∃ p L xs, vs = [.ref p, .ref L] ∧ Pot p H ∧ L ≠ p ∧ H L = some (.lst xs) ∧ 0 < xs.length ∧ xs.length ≤ 100 ∧ ∀ (x : V) (H' : Hp), x ∈ xs → Kp p H H' → Pot p H' → Q x H'
def spTerm (n : Nat) : Sp := fun vs H Q _ => ∃ p m, vs = [.ref p, .int m] ∧ Pot p H ∧ 1 ≤ m ∧ m ≤ n ∧ n ≤ 1000 ∧ ∀ (v : V) (t : Tm) (H' : Hp), TA H' v t → (t.nodes : Int) ≤ m → Kp p H H' → Pot p H' → Q v H'
def spStream : Sp := fun vs H Q _ => ∃ p m, vs = [.ref p, .int m] ∧ Pot p H ∧ 0 ≤ m ∧ m ≤ 1000 ∧ ∀ (bs : List Bool) (H' : Hp), (bs.length : Int) ≤ m → Kp p H H' → Pot p H' → Q (.str (tx bs)) H'
def spAround : Sp := fun vs H Q _ => ∃ p v t, vs = [.ref p, v] ∧ Pot p H ∧ TA H v t ∧ ∀ (v' : V) (t' : Tm) (H' : Hp), TA H' v' t' → t'.nodes ≤ t.nodes + 3 → Kp p H H' → Pot p H' → Q v' H'
theorem atI_mem {xs : List V} {d : Int} (h0 : 0 ≤ d) (h1 : d < xs.length) : ∃ x, atI xs d = some x ∧ x ∈ xs := by
  have hl : d.toNat < xs.length := by omega
  refine ⟨xs[d.toNat], ?_, List.getElem_mem hl⟩
  unfold atI ixN
  rw [if_pos h0, if_pos h1]
  show xs[d.toNat]? = _
  rw [List.getElem?_eq_getElem hl]
section
variable {P : Program} {w : World} {K : PySem.W.Frag} {mg : Str → Option Value} {base : Heap} {aS a1 a2 : Addr} {f : Addr} {fd : FuncData}
abbrev s_law_draw : Stmt := top 68
abbrev N_law_draw : List Str := ["_law_pot_here", "_law_size", "_law_digit"]
theorem sc_law_draw : FnScope N_law_draw ["_law_pot_here", "_law_size"] (defScope s_law_draw) := ⟨rfl, rfl, rfl, by decide +kernel, rfl, by decide +kernel, by decide +kernel⟩
theorem ok_law_draw (F : Fun K "_law_draw" "_law_draw" s_law_draw f fd) (T : Txt K mg aS a1 a2) : FnOk P w K mg base CX0 1 f fd ["_law_pot_here", "_law_size"] spDraw := by
  refine F.ok sc_law_draw (fun vs H Q E h => ?_) (fun cdv A outer s H vs Q E hr h => ?_)
  · obtain ⟨p, n, rfl, _⟩ := h
    rfl
  obtain ⟨p, n, rfl, ⟨a, b, hp, ha, hb0, hb1⟩, hn0, hn1, q⟩ := h
  refine ⟨_, (pss_cons (ps_if (pt_cmpR op_gt (pe_ix (kIxL K rfl) (pv 0) pe_int (fun _ _ => rfl)) pe_int (nomark _))
        (pss_cons (ps_asg (pe_callB call_divmodW rfl T.b_divmod bt_divmod (pa_cons (pe_ix (kIxL K rfl) (pv 0) pe_int (fun _ _ => rfl)) (pa_cons (pv 1) pa_nil))) (kTupG (n := 2) K rfl rfl (pgs_cons (pg_sub (pv 0) pe_int set_list) (pgs_cons (pg_name (i := 2) sc_law_draw.nd rfl (Or.inl rfl)) pgs_nil))))
        (pss_one (ps_ret (pv 2))))
        pss_nil)
        (pss_cons (ps_asg (pe_op op_mod (pe_callTy call_int1 rfl T.b_int bt_int (pa_cons (pe_op op_add (pe_op op_mul (pe_ix (kIxL K rfl) (pv 0) pe_int (fun _ _ => rfl)) pe_int) pe_int) pa_nil)) pe_int) (pg_sub (pv 0) pe_int set_list))
        (pss_one (ps_ret (pe_op op_mod (pe_callTy call_int1 rfl T.b_int bt_int (pa_cons (pe_op op_fdiv (pe_op op_mod (pe_callTy call_int1 rfl T.b_int bt_int (pa_cons (pe_op op_mul (pe_ix (kIxL K rfl) (pv 0) pe_int (fun _ _ => rfl)) (pe_ix (kIxL K rfl) (pv 0) pe_int (fun _ _ => rfl))) pa_nil)) pe_int) pe_int) pa_nil)) (pv 1)))))), ?_⟩
  refine ⟨_, rfl, _, _, _, _, rfl, rfl, SqL.of hp, rfl, _, _, rfl, rfl, _, rfl, ?_⟩
  by_cases h0 : 0 < a
  · refine iteTd (by simpa using h0) ?_
    refine ⟨_, rfl, _, _, _, _, rfl, rfl, SqL.of hp, rfl, _, rfl, _, _, rfl, ⟨hn0, PyProof.noPylong_small (by omega)⟩, fun T0 hT => ?_⟩
    have hne : p ≠ T0 := fun z => by rw [← z, hp] at hT; cases hT
    refine ⟨_, _, rfl, SqT.of upd_same, rfl, _, _, rfl, _, rfl, _, _, _, _, rfl, rfl, (upd_ne hne).trans hp, rfl, _, _, rfl, rfl, _, rfl, ?_⟩
    refine q _ _ (Int.emod_nonneg _ (by omega)) (Int.emod_lt_of_pos _ hn0) ((kp_new hT _).trans (kp_upd _)) ⟨_, _, upd_same, Int.ediv_nonneg ha (by omega), hb0, hb1⟩
  · refine iteFd (by simpa using h0) ?_
    refine ⟨_, rfl, _, _, _, _, rfl, rfl, SqL.of hp, rfl, _, _, rfl, rfl, .inr (by decide), _, _, rfl, rfl, .inl ⟨_, rfl, _, _, rfl, rfl, (by decide : (0 : Int) < 2147483543), _, rfl, _, _, _, _, rfl, rfl, hp, rfl, ?_⟩⟩
    refine ⟨_, rfl, _, _, _, _, rfl, rfl, SqL.of upd_same, rfl, _, rfl, _, _, _, _, rfl, rfl, SqL.of upd_same, rfl, _, _, rfl, rfl, .inl ?_, .inl ⟨_, rfl, _, _, rfl, rfl, (by decide : (0 : Int) < 2147483563), _, _, rfl, rfl, ⟨by decide, by decide⟩, .inl ⟨_, rfl, _, rfl, _, _, rfl, rfl, hn0, ?_⟩⟩⟩
    · have h1 := Int.emod_nonneg (b * 48271 + 22854) (show (2147483543 : Int) ≠ 0 by decide)
      have h2 := Int.emod_lt_of_pos (b * 48271 + 22854) (show (0 : Int) < 2147483543 by decide)
      constructor <;> omega
    · refine q _ _ (Int.emod_nonneg _ (by omega)) (Int.emod_lt_of_pos _ hn0) (kp_upd _) ⟨_, _, upd_same, ha, Int.emod_nonneg _ (by decide), ?_⟩
      have h2 := Int.emod_lt_of_pos (b * 48271 + 22854) (show (0 : Int) < 2147483543 by decide)
      omega
abbrev s_law_pick : Stmt := top 69
abbrev N_law_pick : List Str := ["_law_pot_here", "_law_some"]
theorem sc_law_pick : FnScope N_law_pick ["_law_pot_here", "_law_some"] (defScope s_law_pick) := ⟨rfl, rfl, rfl, by decide +kernel, rfl, by decide +kernel, by decide +kernel⟩
theorem ok_law_pick (F : Fun K "_law_pick" "_law_pick" s_law_pick f fd) (T : Txt K mg aS a1 a2) (c__law_draw : C8.Cal P w K mg base 1 "_law_draw" spDraw []) : FnOk P w K mg base CX0 2 f fd ["_law_pot_here", "_law_some"] spPick := by
  refine F.ok sc_law_pick (fun vs H Q E h => ?_) (fun cdv A outer s H vs Q E hr h => ?_)
  · obtain ⟨p, n, xs, rfl, _⟩ := h
    rfl
  obtain ⟨p, L, xs, rfl, hp, hne, hL, h0, h1, q⟩ := h
  refine ⟨_, (pss_one (ps_ret (pe_ix (kIxL K rfl) (pv 1) (C8.pe_c c__law_draw hr (by decide) rfl (pa_cons (pv 0) (pa_cons (pe_callB (kLen K rfl) rfl T.b_len bt_len (pa_cons (pv 1) pa_nil)) pa_nil))) (fun _ _ => rfl)))), ?_⟩
  refine ⟨_, rfl, _, rfl, _, rfl, _, _, rfl, .inl (SqL.of hL), p, _, rfl, hp, by omega, by omega, fun d H' d0 d1 k pt => ?_⟩
  obtain ⟨x, hx, hm⟩ := atI_mem d0 d1
  exact ⟨_, _, _, x, rfl, rfl, SqL.of (k _ _ hne hL), hx, q _ _ hm k pt⟩
end
end FY


set_option Elab.async false
set_option linter.all false
set_option maxRecDepth 100000
set_option maxHeartbeats 4000000
namespace FY
open PySem L2 FYR
def spPot (K : PySem.W.Frag) : Sp := fun vs H Q _ => ∃ (L : Addr) (ns : List Int) (k : Int), vs = [.ref L, .int k] ∧ SqL K H L (ns.map V.int) ∧ 0 ≤ k ∧ k < 64 ∧ ∀ (H' : Hp) (p : Addr), Same H H' → H p = none → Pot p H' → Q (.ref p) H'
theorem sz {xs : List V} (h : Nat.ble xs.length 10 = true) : xs.length ≤ sizeLine := Nat.le_trans (Nat.le_of_ble_eq_true h) (by decide)
theorem kp_at {p L : Addr} {H H1 : Hp} {o : HO} (a : Kp p H H1) (h : H L = none) : Kp p H (upd H1 L o) := fun b u n e => by
  rw [upd_ne (ne_of_none e h)]
  exact a b u n e
theorem pot_at {p L : Addr} {H : Hp} {o : HO} (a : Pot p H) (h : L ≠ p) : Pot p (upd H L o) := by
  obtain ⟨x, y, e, r⟩ := a
  exact ⟨x, y, (upd_ne (Ne.symm h)).trans e, r⟩
theorem w6 {x : V} (h : x ∈ [V.str "not", V.str "twice", V.str "half", V.str "change", V.str "count", V.str "late"]) : (∃ w : W1, x = .str w.s) ∨ x = .str "late" := by
  simp only [List.mem_cons, List.not_mem_nil, or_false] at h
  rcases h with h | h | h | h | h | h
  · exact .inl ⟨.no, h⟩
  · exact .inl ⟨.twice, h⟩
  · exact .inl ⟨.half, h⟩
  · exact .inl ⟨.change, h⟩
  · exact .inl ⟨.count, h⟩
  · exact .inr h
theorem w5 {x : V} (h : x ∈ [V.str "not", V.str "twice", V.str "half", V.str "change", V.str "count"]) : ∃ w : W1, x = .str w.s := by
  simp only [List.mem_cons, List.not_mem_nil, or_false] at h
  rcases h with h | h | h | h | h
  · exact ⟨.no, h⟩
  · exact ⟨.twice, h⟩
  · exact ⟨.half, h⟩
  · exact ⟨.change, h⟩
  · exact ⟨.count, h⟩
theorem w4 {x : V} (h : x ∈ [V.str "by", V.str "by", V.str "keep", V.str "then"]) : x = .str "by" ∨ x = .str "keep" ∨ x = .str "then" := by
  simp only [List.mem_cons, List.not_mem_nil, or_false] at h
  rcases h with h | h | h | h
  · exact .inl h
  · exact .inl h
  · exact .inr (.inl h)
  · exact .inr (.inr h)
theorem w2 {x : V} (h : x ∈ [V.str "0", V.str "1"]) : ∃ b, x = .str (sgn b) := by
  simp only [List.mem_cons, List.not_mem_nil, or_false] at h
  rcases h with h | h
  · exact ⟨false, by rw [h, s0]⟩
  · exact ⟨true, by rw [h, s1]⟩
theorem tb4 {x : V} {bs : List Bool} (hb : bs.length = 4) (h : x ∈ [V.str "0110", V.str "0001", V.str "0111", V.str (tx bs)]) : ∃ a b c d, x = .str (tx [a, b, c, d]) := by
  simp only [List.mem_cons, List.not_mem_nil, or_false] at h
  rcases h with h | h | h | h
  · exact ⟨false, true, true, false, by rw [h]; exact congrArg V.str (by decide +kernel)⟩
  · exact ⟨false, false, false, true, by rw [h]; exact congrArg V.str (by decide +kernel)⟩
  · exact ⟨false, true, true, true, by rw [h]; exact congrArg V.str (by decide +kernel)⟩
  · match bs, hb with
    | [a, b, c, d], _ => exact ⟨a, b, c, d, h⟩
section
variable {P : Program} {w : World} {K : PySem.W.Frag} {mg : Str → Option Value} {base : Heap} {aS a1 a2 : Addr} {f : Addr} {fd : FuncData}
abbrev s_law_pot : Stmt := top 67
abbrev N_law_pot : List Str := ["_law_script", "_law_k", "_law_cell"]
theorem sc_law_pot : FnScope N_law_pot ["_law_script", "_law_k"] (defScope s_law_pot) := ⟨rfl, rfl, rfl, by decide +kernel, rfl, by decide +kernel, by decide +kernel⟩
theorem ok_law_pot (F : Fun K "_law_pot" "_law_pot" s_law_pot f fd) (T : Txt K mg aS a1 a2) : FnOk P w K mg base CX0 1 f fd ["_law_script", "_law_k"] (spPot K) := by
  refine F.ok sc_law_pot (fun vs H Q E h => ?_) (fun cdv A outer s H vs Q E hr h => ?_)
  · obtain ⟨L, ns, k, rfl, _⟩ := h
    rfl
  obtain ⟨L, ns, k, rfl, hS, k0, k1, q⟩ := h
  refine ⟨_, (pss_cons (ps_set (i := 2) sc_law_pot.nd rfl (Or.inl rfl) (pe_op op_add (pe_op op_mul pe_int (pv 1)) pe_int))
        (pss_cons (ps_if (pt_cmpR op_lt (pv 1) (pe_callB (kLen K rfl) rfl T.b_len bt_len (pa_cons (pv 0) pa_nil)) (nomark _))
        (pss_one (ps_set (i := 2) sc_law_pot.nd rfl (Or.inl rfl) (pe_callB call_abs rfl T.b_abs bt_abs (pa_cons (pe_ix (kIxL K rfl) (pv 0) (pv 1) (fun _ _ => rfl)) pa_nil))))
        pss_nil)
        (pss_one (ps_ret (pe_lst (pa_cons (pe_callB (call_max2 rfl) rfl T.b_max bt_max (pa_cons pe_int (pa_cons (pe_op op_sub (pv 2) (pe_op op_pow pe_int pe_int)) pa_nil))) (pa_cons (pe_op op_add (pe_op op_mod (pe_callTy call_int1 rfl T.b_int bt_int (pa_cons (pe_op op_add (pe_op op_add (pe_op op_mul (pe_op op_mod (pe_callTy call_int1 rfl T.b_int bt_int (pa_cons (pv 2) pa_nil)) pe_int) pe_int) (pe_op op_mul pe_int (pv 1))) pe_int) pa_nil)) pe_int) pe_int) pa_nil))))))), ?_⟩
  refine ⟨_, rfl, _, _, rfl, rfl, .inl (by decide), _, _, rfl, rfl, ?_⟩
  refine ⟨_, rfl, _, rfl, _, _, rfl, .inl hS, _, _, rfl, rfl, _, rfl, ?_⟩
  by_cases hk : k < (ns.map V.int).length
  · refine iteTd (by simpa using hk) ?_
    obtain ⟨x, hx, hm⟩ := atI_mem k0 hk
    obtain ⟨c, _, rfl⟩ := List.mem_map.mp hm
    refine ⟨_, rfl, _, rfl, _, _, _, _, rfl, rfl, hS, hx, c, rfl, ?_⟩
    refine ⟨_, rfl, _, _, rfl, rfl, ⟨by decide, by decide, by decide⟩, _, _, rfl, rfl, _, _, rfl, ?_⟩
    refine ⟨_, rfl, .inl ⟨_, rfl, _, _, rfl, rfl, (by decide : (0 : Int) < 2147483563), _, _, rfl, rfl, .inr (by decide), _, rfl, _, _, rfl, rfl, .inl (by decide), _, _, rfl, rfl, _, _, rfl, rfl, .inl ⟨_, rfl, _, _, rfl, rfl, (by decide : (0 : Int) < 2147483543), _, _, rfl, rfl, sz2, fun p hp => ?_⟩⟩⟩
    refine q _ _ (same_new hp _) hp ⟨_, _, upd_same, ?_, ?_, ?_⟩
    · split <;> omega
    · have := Int.emod_nonneg ((if c < 0 then -c else c) % 2147483563 * 48271 + 6043 * k + 172) (show (2147483543 : Int) ≠ 0 by decide)
      omega
    · have := Int.emod_lt_of_pos ((if c < 0 then -c else c) % 2147483563 * 48271 + 6043 * k + 172) (show (0 : Int) < 2147483543 by decide)
      omega
  · refine iteFd (by simpa using hk) ?_
    refine ⟨_, rfl, _, _, rfl, rfl, ⟨by decide, by decide, by decide⟩, _, _, rfl, rfl, _, _, rfl, ?_⟩
    refine ⟨_, rfl, .inl ⟨_, rfl, _, _, rfl, rfl, (by decide : (0 : Int) < 2147483563), _, _, rfl, rfl, .inr (by decide), _, rfl, _, _, rfl, rfl, .inl (by decide), _, _, rfl, rfl, _, _, rfl, rfl, .inl ⟨_, rfl, _, _, rfl, rfl, (by decide : (0 : Int) < 2147483543), _, _, rfl, rfl, sz2, fun p hp => ?_⟩⟩⟩
    refine q _ _ (same_new hp _) hp ⟨_, _, upd_same, ?_, ?_, ?_⟩
    · split <;> omega
    · have := Int.emod_nonneg ((233 * k + 82) % 2147483563 * 48271 + 6043 * k + 172) (show (2147483543 : Int) ≠ 0 by decide)
      omega
    · have := Int.emod_lt_of_pos ((233 * k + 82) % 2147483563 * 48271 + 6043 * k + 172) (show (0 : Int) < 2147483543 by decide)
      omega
abbrev s_law_term : Stmt := top 70
abbrev N_law_term : List Str := ["_law_pot_here", "_law_most", "_law_way", "_law_word", "_law_part", "_law_left", "_law_one", "_law_other", "_law_own_table", "_law_turn"]
theorem sc_law_term : FnScope N_law_term ["_law_pot_here", "_law_most"] (defScope s_law_term) := ⟨rfl, rfl, rfl, by decide +kernel, rfl, by decide +kernel, by decide +kernel⟩
theorem step_law_term {n : Nat} (F : Fun K "_law_term" "_law_term" s_law_term f fd) (T : Txt K mg aS a1 a2) (c__law_draw : C8.Cal P w K mg base 1 "_law_draw" spDraw []) (c__law_pick : C8.Cal P w K mg base 2 "_law_pick" spPick []) (c__law_term : C8.Cal P w K mg base (n + 3) "_law_term" (spTerm n) []) : FnOk P w K mg base CX0 (n + 4) f fd ["_law_pot_here", "_law_most"] (spTerm (n + 1)) := by
  refine F.ok sc_law_term (fun vs H Q E h => ?_) (fun cdv A outer s H vs Q E hr h => ?_)
  · obtain ⟨p, m, rfl, _⟩ := h
    rfl
  obtain ⟨p, m, rfl, p0, m1, mn, nn, q⟩ := h
  refine ⟨_, (pss_cons (ps_set (i := 2) sc_law_term.nd rfl (Or.inl rfl) (C8.pe_c c__law_draw hr (by omega) rfl (pa_cons (pv 0) (pa_cons pe_int pa_nil))))
        (pss_cons (ps_if (PW.pt (pw_or (pt_cmpR op_lt (pv 1) pe_int (nomark _)) (pw_or1 (pt_cmpR op_eq (pv 2) pe_int (nomark _)))))
        (pss_one (ps_ret pe_str))
        pss_nil)
        (pss_cons (ps_if (PW.pt (pw_or (pt_cmpR op_lt (pv 2) pe_int (nomark _)) (pw_or1 (pt_cmpR op_lt (pv 1) pe_int (nomark _)))))
        (pss_cons (ps_set (i := 3) sc_law_term.nd rfl (Or.inl rfl) (C8.pe_c c__law_pick hr (by omega) rfl (pa_cons (pv 0) (pa_cons (pe_lst (pa_cons pe_str (pa_cons pe_str (pa_cons pe_str (pa_cons pe_str (pa_cons pe_str (pa_cons pe_str pa_nil))))))) pa_nil))))
        (pss_cons (ps_set (i := 4) sc_law_term.nd rfl (Or.inl rfl) (C8.pe_c c__law_term hr (by omega) rfl (pa_cons (pv 0) (pa_cons (pe_op op_sub (pv 1) pe_int) pa_nil))))
        (pss_one (ps_ret (pe_ifExp (pt_cmpR op_eq (pv 3) pe_str (nomark _)) (pe_tup (pa_cons pe_str (pa_cons (C8.pe_c c__law_pick hr (by omega) rfl (pa_cons (pv 0) (pa_cons (pe_lst (pa_cons pe_str (pa_cons pe_str pa_nil))) pa_nil))) (pa_cons (pv 4) pa_nil)))) (pe_tup (pa_cons (pv 3) (pa_cons (pv 4) pa_nil))))))))
        pss_nil)
        (pss_cons (ps_set (i := 5) sc_law_term.nd rfl (Or.inl rfl) (pe_op op_add pe_int (C8.pe_c c__law_draw hr (by omega) rfl (pa_cons (pv 0) (pa_cons (pe_op op_sub (pv 1) pe_int) pa_nil)))))
        (pss_cons (ps_par (i := 6) (j := 7) rfl sc_law_term.nd rfl rfl (by decide) rfl rfl (pa_cons (C8.pe_c c__law_term hr (by omega) rfl (pa_cons (pv 0) (pa_cons (pv 5) pa_nil))) (pa_cons (C8.pe_c c__law_term hr (by omega) rfl (pa_cons (pv 0) (pa_cons (pe_op op_sub (pe_op op_sub (pv 1) pe_int) (pv 5)) pa_nil))) pa_nil)) rfl)
        (pss_cons (ps_set (i := 3) sc_law_term.nd rfl (Or.inl rfl) (C8.pe_c c__law_pick hr (by omega) rfl (pa_cons (pv 0) (pa_cons (pe_lst (pa_cons pe_str (pa_cons pe_str (pa_cons pe_str (pa_cons pe_str pa_nil))))) pa_nil))))
        (pss_cons (ps_if (pt_cmpR op_eq (pv 3) pe_str (nomark _))
        (pss_cons (ps_set (i := 8) sc_law_term.nd rfl (Or.inl rfl) (kJoin K rfl pe_str (pe_lc (own := [("_law_turn", 9)]) rfl sc_law_term.nd (pi_range1 rfl T.b_range (pa_cons pe_int pa_nil)) (blkOk_by (N := N_law_term) (sc := defScope s_law_term) (by decide +kernel)) (fun _ _ _ _ _ => (pg_name (i := 9) sc_law_term.nd rfl (Or.inl rfl))) (fun _ _ _ _ _ => pts_nil) (fun _ _ _ _ _ => (C8.pe_c c__law_pick hr (by omega) rfl (pa_cons (pv 0) (pa_cons (pe_lst (pa_cons pe_str (pa_cons pe_str pa_nil))) pa_nil)))))))
        (pss_one (ps_ret (pe_tup (pa_cons pe_str (pa_cons (C8.pe_c c__law_pick hr (by omega) rfl (pa_cons (pv 0) (pa_cons (pe_lst (pa_cons pe_str (pa_cons pe_str (pa_cons pe_str (pa_cons (pv 8) pa_nil))))) pa_nil))) (pa_cons (pv 6) (pa_cons (pv 7) pa_nil))))))))
        pss_nil)
        (pss_one (ps_ret (pe_tup (pa_cons (pv 3) (pa_cons (pv 6) (pa_cons (pv 7) pa_nil))))))))))))), ?_⟩
  refine ⟨_, rfl, p, _, rfl, p0, by decide, by decide, fun way H1 w0 w1 k1 p1 => ?_⟩
  have hIn : Q (.str "in") H1 := q _ .inn _ rfl (by show ((1 : Nat) : Int) ≤ m; omega) k1 p1
  refine ⟨_, rfl, _, _, rfl, rfl, _, rfl, ?_⟩
  by_cases c1 : m < 2
  · exact iteTd (by simpa using c1) (iteT hIn)
  refine iteFd (by simpa using c1) ⟨_, rfl, rfl, _, rfl, ?_⟩
  by_cases c1' : way = 0
  · exact iteTd (by rw [dec_int]; simpa using c1') hIn
  refine iteFd (by rw [dec_int]; simpa using c1') ?_
  have m2 : 2 ≤ m := by omega
  refine ⟨_, rfl, _, _, rfl, rfl, _, rfl, ?_⟩
  by_cases c2 : way < 7
  · refine iteTd (by simpa using c2) (iteT ?_)
    refine ⟨_, rfl, sz rfl, fun L hL => ⟨p, L, _, rfl, p1.same (same_new hL _), p1.ne hL, upd_same, by decide, by decide, fun x H2 hx k2 p2 => ?_⟩⟩
    refine ⟨_, rfl, _, rfl, _, _, rfl, rfl, p, _, rfl, p2, by omega, by omega, by omega, fun v t H3 ht hnt k3 p3 => ?_⟩
    have kk3 : Kp p H H3 := (k1.trans (kp_new hL _)).trans (k2.trans k3)
    refine ⟨_, rfl, ?_, _, rfl, ?_⟩
    · rcases w6 hx with ⟨w, rfl⟩ | rfl <;> rfl
    rcases w6 hx with ⟨w, rfl⟩ | rfl
    · refine iteFd (by cases w <;> decide +kernel) ?_
      refine ⟨_, rfl, _, rfl, sz rfl, fun T0 hT => ?_⟩
      exact q _ (.one w t) _ ⟨_, _, rfl, upd_same, ht.keep (Tups.of (same_new hT _))⟩ (by show ((t.nodes + 1 : Nat) : Int) ≤ m; omega) (kk3.trans (kp_new hT _)) (p3.same (same_new hT _))
    · refine iteTd (by decide +kernel) ?_
      refine ⟨_, rfl, sz rfl, fun L2 hL2 => ⟨p, L2, _, rfl, p3.same (same_new hL2 _), p3.ne hL2, upd_same, by decide, by decide, fun y H4 hy k4 p4 => ?_⟩⟩
      obtain ⟨b, rfl⟩ := w2 hy
      refine ⟨_, rfl, sz rfl, fun T0 hT => ?_⟩
      have tu : Tups H3 (upd H4 T0 (.tup [.str "late", .str (sgn b), v])) := (Tups.of (same_new hL2 _)).trans (((p3.same (same_new hL2 _)).tups k4).trans (Tups.of (same_new hT _)))
      exact q _ (.late b t) _ ⟨_, _, rfl, upd_same, ht.keep tu⟩ (by show ((t.nodes + 1 : Nat) : Int) ≤ m; omega) (kk3.trans ((kp_new hL2 _).trans (k4.trans (kp_new hT _)))) (p4.same (same_new hT _))
  refine iteFd (by simpa using c2) ⟨_, rfl, _, _, rfl, rfl, _, rfl, ?_⟩
  by_cases c3 : m < 3
  · refine iteTd (by simpa using c3) ?_
    refine ⟨_, rfl, sz rfl, fun L hL => ⟨p, L, _, rfl, p1.same (same_new hL _), p1.ne hL, upd_same, by decide, by decide, fun x H2 hx k2 p2 => ?_⟩⟩
    refine ⟨_, rfl, _, rfl, _, _, rfl, rfl, p, _, rfl, p2, by omega, by omega, by omega, fun v t H3 ht hnt k3 p3 => ?_⟩
    have kk3 : Kp p H H3 := (k1.trans (kp_new hL _)).trans (k2.trans k3)
    refine ⟨_, rfl, ?_, _, rfl, ?_⟩
    · rcases w6 hx with ⟨w, rfl⟩ | rfl <;> rfl
    rcases w6 hx with ⟨w, rfl⟩ | rfl
    · refine iteFd (by cases w <;> decide +kernel) ?_
      refine ⟨_, rfl, _, rfl, sz rfl, fun T0 hT => ?_⟩
      exact q _ (.one w t) _ ⟨_, _, rfl, upd_same, ht.keep (Tups.of (same_new hT _))⟩ (by show ((t.nodes + 1 : Nat) : Int) ≤ m; omega) (kk3.trans (kp_new hT _)) (p3.same (same_new hT _))
    · refine iteTd (by decide +kernel) ?_
      refine ⟨_, rfl, sz rfl, fun L2 hL2 => ⟨p, L2, _, rfl, p3.same (same_new hL2 _), p3.ne hL2, upd_same, by decide, by decide, fun y H4 hy k4 p4 => ?_⟩⟩
      obtain ⟨b, rfl⟩ := w2 hy
      refine ⟨_, rfl, sz rfl, fun T0 hT => ?_⟩
      have tu : Tups H3 (upd H4 T0 (.tup [.str "late", .str (sgn b), v])) := (Tups.of (same_new hL2 _)).trans (((p3.same (same_new hL2 _)).tups k4).trans (Tups.of (same_new hT _)))
      exact q _ (.late b t) _ ⟨_, _, rfl, upd_same, ht.keep tu⟩ (by show ((t.nodes + 1 : Nat) : Int) ≤ m; omega) (kk3.trans ((kp_new hL2 _).trans (k4.trans (kp_new hT _)))) (p4.same (same_new hT _))
  · refine iteFd (by simpa using c3) ?_
    refine ⟨_, rfl, _, rfl, _, _, rfl, rfl, p, _, rfl, p1, by omega, by omega, fun d H2 d0 d1 k2 p2 => ⟨_, _, rfl, rfl, ?_⟩⟩
    refine ⟨_, rfl, _, rfl, p, _, rfl, p2, by omega, by omega, by omega, fun v1 t1 H3 ht1 hn1 k3 p3 => ?_⟩
    refine ⟨_, rfl, _, rfl, _, _, rfl, rfl, _, rfl, _, _, rfl, rfl, p, _, rfl, p3, by omega, by omega, by omega, fun v2 t2 H4 ht2 hn2 k4 p4 => ⟨_, _, rfl, ?_⟩⟩
    have kk4 : Kp p H H4 := ((k1.trans k2).trans k3).trans k4
    have hn12 : (t1.nodes : Int) + t2.nodes + 1 ≤ m := by omega
    have ht1' := ht1.keep (p3.tups k4)
    refine ⟨_, rfl, sz rfl, fun L hL => ⟨p, L, _, rfl, p4.same (same_new hL _), p4.ne hL, upd_same, by decide, by decide, fun x H5 hx k5 p5 => ?_⟩⟩
    have tu5 : Tups H4 H5 := (Tups.of (same_new hL _)).trans ((p4.same (same_new hL _)).tups k5)
    have kk5 : Kp p H H5 := kk4.trans ((kp_new hL _).trans k5)
    refine ⟨_, rfl, ?_, _, rfl, ?_⟩
    · rcases w4 hx with rfl | rfl | rfl <;> rfl
    rcases w4 hx with rfl | rfl | rfl
    · refine iteTd (by decide +kernel) ?_
      refine ⟨⟨_, rfl⟩, 4, rfl, by decide, by decide, fun D hD => lc_it walk_range (fun i H' => ∃ bs : List Bool, bs.length = i ∧ H' D = some (.lst (bs.map vs)) ∧ Kp p H5 H' ∧ Pot p H') ⟨[], rfl, upd_same, kp_new hD _, p5.same (same_new hD _)⟩ (fun _ _ _ _ => trivial) ?_ ?_⟩
      · rintro i x H6 H7 hi ⟨bs, hbs, hd, kk, pp⟩ ⟨rfl, rfl⟩
        have hi4 : i < 4 := hi
        refine ⟨rfl, tyI ⟨_, rfl, sz rfl, fun L hL => ⟨p, L, _, rfl, pp.same (same_new hL _), pp.ne hL, upd_same, by decide, by decide, fun y H8 hy k8 p8 => ?_⟩⟩⟩
        obtain ⟨b, rfl⟩ := w2 hy
        refine ⟨_, k8 _ _ (p5.ne hD) (same_new hL _ _ _ hd), ?_, bs ++ [b], by simp [hbs], by rw [upd_same]; simp, kp_at (kk.trans ((kp_new hL _).trans k8)) hD, pot_at p8 (p5.ne hD)⟩
        rw [List.length_map]
        exact Nat.lt_of_lt_of_le (show bs.length < 100000 by omega) (by decide)
      · rintro H6 ⟨bs, hbs, hd, kk, pp⟩
        have hb4 : bs.length = 4 := hbs
        refine joinEnd hd (by omega) ?_
        refine ⟨_, rfl, _, rfl, sz rfl, fun L hL => ⟨p, L, _, rfl, pp.same (same_new hL _), pp.ne hL, upd_same, Nat.zero_lt_succ _, (by simp), fun y H7 hy k7 p7 => ?_⟩⟩
        obtain ⟨b1, b2, b3, b4, rfl⟩ := tb4 hb4 hy
        refine ⟨_, rfl, _, rfl, sz rfl, fun T0 hT => ?_⟩
        have tu : Tups H4 (upd H7 T0 (.tup [.str "by", .str (tx [b1, b2, b3, b4]), v1, v2])) := tu5.trans ((p5.tups kk).trans ((Tups.of (same_new hL _)).trans (((pp.same (same_new hL _)).tups k7).trans (Tups.of (same_new hT _)))))
        exact q _ (.byy b1 b2 b3 b4 t1 t2) _ ⟨_, _, _, rfl, upd_same, ht1'.keep tu, ht2.keep tu⟩ (by show ((t1.nodes + t2.nodes + 1 : Nat) : Int) ≤ m; omega) (kk5.trans (kk.trans ((kp_new hL _).trans (k7.trans (kp_new hT _))))) (p7.same (same_new hT _))
    · refine iteFd (by decide +kernel) ?_
      refine ⟨_, rfl, _, rfl, _, rfl, sz rfl, fun T0 hT => ?_⟩
      have tu : Tups H4 (upd H5 T0 (.tup [.str "keep", v1, v2])) := tu5.trans (Tups.of (same_new hT _))
      exact q _ (.keep t1 t2) _ ⟨_, _, _, rfl, upd_same, ht1'.keep tu, ht2.keep tu⟩ (by show ((t1.nodes + t2.nodes + 1 : Nat) : Int) ≤ m; omega) (kk5.trans (kp_new hT _)) (p5.same (same_new hT _))
    · refine iteFd (by decide +kernel) ?_
      refine ⟨_, rfl, _, rfl, _, rfl, sz rfl, fun T0 hT => ?_⟩
      have tu : Tups H4 (upd H5 T0 (.tup [.str "then", v1, v2])) := tu5.trans (Tups.of (same_new hT _))
      exact q _ (.thn t1 t2) _ ⟨_, _, _, rfl, upd_same, ht1'.keep tu, ht2.keep tu⟩ (by show ((t1.nodes + t2.nodes + 1 : Nat) : Int) ≤ m; omega) (kk5.trans (kp_new hT _)) (p5.same (same_new hT _))
theorem ok_law_term (F : Fun K "_law_term" "_law_term" s_law_term f fd) (T : Txt K mg aS a1 a2) (hm : mg "_law_term" = some (.ref f)) (hk : PySem.W.keepIn K (.ref f) = true) (hb : Binds K fd ["_law_pot_here", "_law_most"] []) (c__law_draw : C8.Cal P w K mg base 1 "_law_draw" spDraw []) (c__law_pick : C8.Cal P w K mg base 2 "_law_pick" spPick []) : ∀ n, C8.Cal P w K mg base (n + 3) "_law_term" (spTerm n) []
  | 0 => ⟨f, fd, _, [], ⟨by rintro vs H Q E ⟨p, m, rfl, _⟩; rfl, by
      rintro A outer s H args us vs Q E hr e0 hb r ⟨p, m, rfl, _, h1, h2, _⟩
      omega⟩, hm, hk, hb, .nil⟩
  | n + 1 => ⟨f, fd, _, [], step_law_term F T c__law_draw c__law_pick (ok_law_term F T hm hk hb c__law_draw c__law_pick n), hm, hk, hb, .nil⟩
end
end FY


set_option Elab.async false
set_option linter.all false
set_option maxRecDepth 100000
set_option maxHeartbeats 4000000
namespace FY
open PySem L2 FYR
/-! ## rows, standings, stations -/
structure Rw where
  gives : List (List Bool)
  goal : Nat
  ticks : Nat
inductive Rd where
  | one | two | both
def Rd.s : Rd → Str | .one => "1" | .two => "2" | .both => "12"
def Rd.many : Rd → Nat | .both => 4 | _ => 2
theorem Rd.many_le (r : Rd) : r.many ≤ 100000 := by cases r <;> decide
structure Sg where
  reads : Rd
  rows : List Rw
structure Stn where
  ins : Nat
  outs : Nat
  stgs : List Sg
def Rw.ok (r : Rw) (outs many : Nat) : Prop := r.gives.length = outs ∧ (∀ g ∈ r.gives, g.length ≤ 2) ∧ r.goal < many ∧ 1 ≤ r.ticks ∧ r.ticks ≤ 9
def Sg.ok (s : Sg) (ins outs many : Nat) : Prop := (s.reads = .one ∨ ins = 2) ∧ s.rows.length = s.reads.many ∧ ∀ r ∈ s.rows, r.ok outs many
structure Stn.ok (t : Stn) : Prop where
  i1 : 1 ≤ t.ins
  i2 : t.ins ≤ 2
  o1 : 1 ≤ t.outs
  o2 : t.outs ≤ 2
  m1 : 1 ≤ t.stgs.length
  m2 : t.stgs.length ≤ 4
  sg : ∀ s ∈ t.stgs, s.ok t.ins t.outs t.stgs.length
def RwA (H : Hp) (v : V) (r : Rw) : Prop := ∃ a g, v = .ref a ∧ H a = some (.tup [.ref g, .int r.goal, .int r.ticks]) ∧ H g = some (.tup (r.gives.map fun b => V.str (tx b)))
theorem RwA.keep {H H' : Hp} (k : Tups H H') {v : V} {r : Rw} (h : RwA H v r) : RwA H' v r := by
  obtain ⟨a, g, e, h1, h2⟩ := h
  exact ⟨a, g, e, k _ _ h1, k _ _ h2⟩
theorem rwA_all {H H' : Hp} (k : Tups H H') : ∀ {ws : List V} {rs : List Rw}, Paired (RwA H) ws rs → Paired (RwA H') ws rs
  | _, _, .nil => .nil
  | _, _, .cons r q => .cons (r.keep k) (rwA_all k q)
/-- a standing as it is told: its rows a list -/
def ToldA (H : Hp) (v : V) (s : Sg) : Prop := ∃ a q ws, v = .ref a ∧ H a = some (.tup [.str s.reads.s, .ref q]) ∧ H q = some (.lst ws) ∧ Paired (RwA H) ws s.rows
/-- a standing as it is kept: its rows a tuple -/
def SgA (H : Hp) (v : V) (s : Sg) : Prop := ∃ a q ws, v = .ref a ∧ H a = some (.tup [.str s.reads.s, .ref q]) ∧ H q = some (.tup ws) ∧ Paired (RwA H) ws s.rows
theorem SgA.keep {H H' : Hp} (k : Tups H H') {v : V} {s : Sg} (h : SgA H v s) : SgA H' v s := by
  obtain ⟨a, q, ws, e, h1, h2, p⟩ := h
  exact ⟨a, q, ws, e, k _ _ h1, k _ _ h2, rwA_all k p⟩
theorem ToldA.same {H H' : Hp} (k : Same H H') {v : V} {s : Sg} (h : ToldA H v s) : ToldA H' v s := by
  obtain ⟨a, q, ws, e, h1, h2, p⟩ := h
  exact ⟨a, q, ws, e, k _ _ h1, k _ _ h2, rwA_all (Tups.of k) p⟩
def spIsInt : Sp := fun vs H Q _ => ∃ n, vs = [.int n] ∧ Q (.bl true) H
def spIsCount : Sp := fun vs H Q _ => ∃ n, vs = [.int n] ∧ Q (.bl (decide (0 ≤ n))) H
def spIsBelow : Sp := fun vs H Q _ => ∃ n m, vs = [.int n, .int m] ∧ 0 ≤ n ∧ Q (.bl (decide (n < m))) H
def spIsList : Sp := fun vs H Q _ => ∃ L xs, vs = [.ref L] ∧ H L = some (.lst xs) ∧ ∀ H', Same H H' → Q (.bl true) H'
def spIsRow : Sp := fun vs H Q _ => ∃ (v : V) (r : Rw) (outs many : Nat), vs = [v, .int outs, .int many] ∧ RwA H v r ∧ r.ok outs many ∧ outs ≤ 2 ∧ ∀ H', Same H H' → Q (.bl true) H'
def spAreRead : Sp := fun vs H Q _ => ∃ (r : Rd) (ins : Nat), vs = [.str r.s, .int ins] ∧ (r = .one ∨ ins = 2) ∧ Q (.bl true) H
def spIsTold : Sp := fun vs H Q _ => ∃ (v : V) (s : Sg) (ins outs many : Nat), vs = [v, .int ins, .int outs, .int many] ∧ ToldA H v s ∧ s.ok ins outs many ∧ outs ≤ 2 ∧ ∀ H', Same H H' → Q (.bl true) H'
theorem ty_int {K : PySem.W.Frag} {H : Hp} (n : Int) : TyX K H (.int n) (.type "int") := .base (.int n)
theorem kii {K : PySem.W.Frag} : PySem.W.kitOne K (.type "int") (.type "int") = some true := kit_ty (by decide +kernel)
theorem kib {K : PySem.W.Frag} : PySem.W.kitOne K (.type "int") (.type "bool") = some false := kit_ty (by decide +kernel)
theorem ty_lst {K : PySem.W.Frag} {H : Hp} {a : Addr} {xs : List V} (h : H a = some (.lst xs)) : TyX K H (.ref a) (.type "list") := .base (.lst h)
section
variable {P : Program} {w : World} {K : PySem.W.Frag} {mg : Str → Option Value} {base : Heap} {aS a1 a2 : Addr} {f : Addr} {fd : FuncData}
abbrev s_is_integer : Stmt := top 16
abbrev N_is_integer : List Str := ["value"]
theorem sc_is_integer : FnScope N_is_integer ["value"] (defScope s_is_integer) := ⟨rfl, rfl, rfl, by decide +kernel, rfl, by decide +kernel, by decide +kernel⟩
theorem ok_is_integer (F : Fun K "is_integer" "is_integer" s_is_integer f fd) (T : Txt K mg aS a1 a2) : FnOk P w K mg base CX0 1 f fd ["value"] spIsInt := by
  refine F.ok sc_is_integer (fun vs H Q E h => ?_) (fun cdv A outer s H vs Q E hr h => ?_)
  · obtain ⟨b, rfl, _⟩ := h
    rfl
  obtain ⟨n, rfl, q⟩ := h
  refine ⟨_, (pss_one (ps_ret (pe_and (pe_callB (kIsi K rfl) rfl T.b_isinstance bt_isinstance (pa_cons (pv 0) (pa_cons (pTy rfl T.b_int bt_int) pa_nil))) (pe_one (pe_not (pe_callB (kIsi K rfl) rfl T.b_isinstance bt_isinstance (pa_cons (pv 0) (pa_cons (pTy rfl T.b_bool bt_bool) pa_nil)))))))), ?_⟩
  exact ⟨_, rfl, _, _, _, _, _, rfl, .ty _, ty_int _, kii, _, rfl, iteT ⟨_, rfl, _, _, _, _, _, rfl, .ty _, ty_int _, kib, _, rfl, q⟩⟩
abbrev s_is_count : Stmt := top 17
abbrev N_is_count : List Str := ["value"]
theorem sc_is_count : FnScope N_is_count ["value"] (defScope s_is_count) := ⟨rfl, rfl, rfl, by decide +kernel, rfl, by decide +kernel, by decide +kernel⟩
theorem ok_is_count (F : Fun K "is_count" "is_count" s_is_count f fd) (T : Txt K mg aS a1 a2) (c_is_integer : C8.Cal P w K mg base 1 "is_integer" spIsInt []) : FnOk P w K mg base CX0 2 f fd ["value"] spIsCount := by
  refine F.ok sc_is_count (fun vs H Q E h => ?_) (fun cdv A outer s H vs Q E hr h => ?_)
  · obtain ⟨b, rfl, _⟩ := h
    rfl
  obtain ⟨n, rfl, q⟩ := h
  refine ⟨_, (pss_one (ps_ret (pe_and (C8.pe_c c_is_integer hr (by decide) rfl (pa_cons (pv 0) pa_nil)) (pe_one (pe_cmpR op_ge (pv 0) pe_int (nomark _)))))), ?_⟩
  exact ⟨_, rfl, n, rfl, _, rfl, iteT ⟨_, rfl, _, _, rfl, rfl, q⟩⟩
abbrev s_is_below : Stmt := top 18
abbrev N_is_below : List Str := ["value", "limit"]
theorem sc_is_below : FnScope N_is_below ["value", "limit"] (defScope s_is_below) := ⟨rfl, rfl, rfl, by decide +kernel, rfl, by decide +kernel, by decide +kernel⟩
theorem ok_is_below (F : Fun K "is_below" "is_below" s_is_below f fd) (T : Txt K mg aS a1 a2) (c_is_count : C8.Cal P w K mg base 2 "is_count" spIsCount []) : FnOk P w K mg base CX0 3 f fd ["value", "limit"] spIsBelow := by
  refine F.ok sc_is_below (fun vs H Q E h => ?_) (fun cdv A outer s H vs Q E hr h => ?_)
  · obtain ⟨b, m, rfl, _⟩ := h
    rfl
  obtain ⟨n, m, rfl, h0, q⟩ := h
  refine ⟨_, (pss_one (ps_ret (pe_and (C8.pe_c c_is_count hr (by decide) rfl (pa_cons (pv 0) pa_nil)) (pe_one (pe_cmpR op_lt (pv 0) (pv 1) (nomark _)))))), ?_⟩
  exact ⟨_, rfl, n, rfl, _, rfl, iteTd (by simpa using h0) ⟨_, rfl, _, rfl, _, _, rfl, rfl, q⟩⟩
abbrev s_is_list : Stmt := top 21
abbrev N_is_list : List Str := ["value"]
theorem sc_is_list : FnScope N_is_list ["value"] (defScope s_is_list) := ⟨rfl, rfl, rfl, by decide +kernel, rfl, by decide +kernel, by decide +kernel⟩
theorem ok_is_list (F : Fun K "is_list" "is_list" s_is_list f fd) (T : Txt K mg aS a1 a2) : FnOk P w K mg base CX0 1 f fd ["value"] spIsList := by
  refine F.ok sc_is_list (fun vs H Q E h => ?_) (fun cdv A outer s H vs Q E hr h => ?_)
  · obtain ⟨L, xs, rfl, _⟩ := h
    rfl
  obtain ⟨L, xs, rfl, hL, q⟩ := h
  refine ⟨_, (pss_one (ps_ret (pe_callB (kIsiT K rfl) rfl T.b_isinstance bt_isinstance (pa_cons (pv 0) (pa_cons (pe_tup (pa_cons (pTy rfl T.b_list bt_list) (pa_cons (pTy rfl T.b_tuple bt_tuple) pa_nil))) pa_nil))))), ?_⟩
  refine ⟨_, rfl, sz rfl, fun p hp => ⟨_, p, _, _, _, true, rfl, upd_same, .cons (.ty _) (.cons (.ty _) .nil), ty_lst (same_new hp _ _ _ hL), ?_, q _ (same_new hp _)⟩⟩
  exact kitAny_cons (b := true) (kit_ty (by decide +kernel)) (fun z => nomatch z) (fun _ => rfl)
abbrev s_is_row : Stmt := top 29
abbrev N_is_row : List Str := ["value", "outs", "many", "text"]
theorem sc_is_row : FnScope N_is_row ["value", "outs", "many"] (defScope s_is_row) := ⟨rfl, rfl, rfl, by decide +kernel, rfl, by decide +kernel, by decide +kernel⟩
theorem ok_is_row (F : Fun K "is_row" "is_row" s_is_row f fd) (T : Txt K mg aS a1 a2) (c_is_integer : C8.Cal P w K mg base 1 "is_integer" spIsInt []) (c_is_text_of : C8.Cal P w K mg base 2 "is_text_of" spIsTextOf []) (c_is_below : C8.Cal P w K mg base 3 "is_below" spIsBelow []) : FnOk P w K mg base CX0 4 f fd ["value", "outs", "many"] spIsRow := by
  refine F.ok sc_is_row (fun vs H Q E h => ?_) (fun cdv A outer s H vs Q E hr h => ?_)
  · obtain ⟨v, r, o, m, rfl, _⟩ := h
    rfl
  obtain ⟨v, r, outs, many, rfl, ⟨a, g, rfl, ha, hg⟩, ⟨r1, r2, r3, r4, r5⟩, ho2, q⟩ := h
  refine ⟨_, (pss_cons (ps_if (PW.pt (pw_or (pt_not (pt_val (pe_callB (kIsi K rfl) rfl T.b_isinstance bt_isinstance (pa_cons (pv 0) (pa_cons (pTy rfl T.b_tuple bt_tuple) pa_nil))))) (pw_or (pt_cmpR op_ne (pe_callB (kLen K rfl) rfl T.b_len bt_len (pa_cons (pv 0) pa_nil)) pe_int (nomark _)) (pw_or (pt_not (pt_val (pe_callB (kIsi K rfl) rfl T.b_isinstance bt_isinstance (pa_cons (pe_ix (kIxT K rfl) (pv 0) pe_int (fun _ _ => rfl)) (pa_cons (pTy rfl T.b_tuple bt_tuple) pa_nil))))) (pw_or1 (pt_cmpR op_ne (pe_callB (kLen K rfl) rfl T.b_len bt_len (pa_cons (pe_ix (kIxT K rfl) (pv 0) pe_int (fun _ _ => rfl)) pa_nil)) (pv 1) (nomark _)))))))
        (pss_one (ps_ret pe_bl))
        pss_nil)
        (pss_cons (ps_if (PW.pt (pw_or (pt_not (pt_val (pe_callB (kAll K rfl rfl) rfl T.b_all bt_all (pa_cons (pe_lc (own := [("text", 3)]) rfl sc_is_row.nd (kTup K rfl (pe_ix (kIxT K rfl) (pv 0) pe_int (fun _ _ => rfl))) (blkOk_by (N := N_is_row) (sc := defScope s_is_row) (by decide +kernel)) (fun _ _ _ _ _ => (pg_name (i := 3) sc_is_row.nd rfl (Or.inl rfl))) (fun _ _ _ _ _ => pts_nil) (fun _ _ _ _ _ => (C8.pe_c c_is_text_of hr (by decide) rfl (pa_cons (pv 3) (pa_cons (C8.pe_gc rfl T.g_MOST_GIVEN) pa_nil))))) pa_nil)))) (pw_or1 (pt_not (pt_val (C8.pe_c c_is_below hr (by decide) rfl (pa_cons (pe_ix (kIxT K rfl) (pv 0) pe_int (fun _ _ => rfl)) (pa_cons (pv 2) pa_nil))))))))
        (pss_one (ps_ret pe_bl))
        pss_nil)
        (pss_one (ps_ret (pe_and (C8.pe_c c_is_integer hr (by decide) rfl (pa_cons (pe_ix (kIxT K rfl) (pv 0) pe_int (fun _ _ => rfl)) pa_nil)) (pe_one (pe_chain op_le op_le pe_int (pe_ix (kIxT K rfl) (pv 0) pe_int (fun _ _ => rfl)) (C8.pe_gc rfl T.g_MOST_TICKS)))))))), ?_⟩
  refine ⟨_, rfl, _, _, _, _, _, rfl, .ty _, ty_tup ha, ktt, _, rfl, iteF ⟨_, rfl, _, _, rfl, .inr (SqT.of ha), rfl, _, rfl, iteFd (by rw [dec_int]; rfl) ⟨_, rfl, _, _, _, _, rfl, rfl, SqT.of ha, rfl, _, _, _, _, _, rfl, .ty _, ty_tup hg, ktt, _, rfl, iteF ⟨_, rfl, _, _, _, _, rfl, rfl, SqT.of ha, rfl, _, _, rfl, .inr (SqT.of hg), _, rfl, rfl, _, rfl, iteFd (by rw [dec_int, List.length_map, r1]; simp) ?_⟩⟩⟩⟩
  refine ⟨_, rfl, _, _, _, _, rfl, rfl, SqT.of ha, rfl, _, rfl, ⟨_, SqT.of hg⟩, fun D hD => lc_it walk_tup (fun i H' => Same H H' ∧ H' D = some (.lst (List.replicate i (.bl true)))) ⟨same_new hD _, upd_same⟩ (fun i H' _ z => SqT.of (z.1 _ _ hg)) ?_ ?_⟩
  · rintro i x H1 H2 hi ⟨sm, hd⟩ ⟨rfl, hx⟩
    obtain ⟨b, hb, rfl⟩ := List.getElem?_map_some hx
    have hb2 := r2 b (List.mem_of_getElem? hb)
    have hil := lt_len hb
    refine ⟨rfl, tyI ⟨_, rfl, b, _, rfl, by omega, fun H3 s3 => ?_⟩⟩
    rw [decide_eq_true (by omega)]
    refine ⟨_, s3 _ _ hd, ?_, same_at (sm.trans' s3) hD, ?_⟩
    · rw [List.length_replicate]
      exact Nat.lt_of_lt_of_le (show i < 100000 by omega) (by decide)
    · rw [upd_same, List.replicate_succ']
  · rintro H1 ⟨sm, hd⟩
    refine ⟨_, List.replicate _ true, rfl, SqL.of (by rw [hd, List.map_replicate]), _, rfl, ?_⟩
    rw [show ∀ m, (List.replicate m true).all id = true from fun m => by simp]
    have ha1 := sm _ _ ha
    refine iteF ⟨_, rfl, _, _, _, _, rfl, rfl, SqT.of ha1, rfl, _, rfl, _, _, rfl, by omega, _, rfl, ?_⟩
    rw [decide_eq_true (by omega)]
    refine iteF ⟨_, rfl, _, _, _, _, rfl, rfl, SqT.of ha1, rfl, _, rfl, _, rfl, iteT ?_⟩
    refine ⟨_, rfl, _, _, _, _, rfl, rfl, SqT.of ha1, rfl, _, _, rfl, rfl, _, rfl, iteTd (by simp; omega) ⟨_, _, rfl, rfl, ?_⟩⟩
    show Q (.bl (decide ((r.ticks : Int) ≤ 9))) H1
    rw [decide_eq_true (by omega)]
    exact q _ sm
end
/-- what the text says of LINES -/
structure Lin (K : PySem.W.Frag) (w : World) (mg : Str → Option Value) (aL : Addr) : Prop where
  g_LINES : ∃ u, mg "LINES" = some u ∧ RelV (.ref aL) u
  kd : ∃ es n, KDict K w aL es n
  at_ : ∀ r : Rd, ∃ u, PySem.W.nsIn K aL r.s = some (some u)
def rInL (K : PySem.W.Frag) (aL : Addr) : R2 := fun x y H Q => ∃ (z : Str) (r : Option Value), x = .str z ∧ y = .ref aL ∧ PySem.W.nsIn K aL z = some r ∧ Q (.bl r.isSome) H
theorem kInL {X : Cx} (K : PySem.W.Frag) (hK : X.K = K) {w : World} {mg : Str → Option Value} {aL : Addr} (hw : X.w = w) (L : Lin K w mg aL) : OpR X (compareOp .In) (rInL K aL) := by
  subst hK
  subst hw
  obtain ⟨es, n, kd⟩ := L.kd
  exact op_in_kd kd
section
variable {P : Program} {w : World} {K : PySem.W.Frag} {mg : Str → Option Value} {base : Heap} {aS a1 a2 aL : Addr} {f : Addr} {fd : FuncData}
abbrev s_are_read : Stmt := top 30
abbrev N_are_read : List Str := ["value", "ins"]
theorem sc_are_read : FnScope N_are_read ["value", "ins"] (defScope s_are_read) := ⟨rfl, rfl, rfl, by decide +kernel, rfl, by decide +kernel, by decide +kernel⟩
theorem ok_are_read (F : Fun K "are_read" "are_read" s_are_read f fd) (T : Txt K mg aS a1 a2) (L : Lin K w mg aL) : FnOk P w K mg base CX0 1 f fd ["value", "ins"] spAreRead := by
  refine F.ok sc_are_read (fun vs H Q E h => ?_) (fun cdv A outer s H vs Q E hr h => ?_)
  · obtain ⟨r, i, rfl, _⟩ := h
    rfl
  obtain ⟨r, ins, rfl, ho, q⟩ := h
  refine ⟨_, (pss_one (ps_ret (pe_and (pe_callB (kIsi K rfl) rfl T.b_isinstance bt_isinstance (pa_cons (pv 0) (pa_cons (pTy rfl T.b_str bt_str) pa_nil))) (pe_and (pe_cmpR (kInL K rfl rfl L) (pv 0) (C8.pe_gc rfl L.g_LINES) rfl) (pe_one (pe_or (pe_cmpR op_eq (pv 0) pe_str (nomark _)) (pe_one (pe_cmpR op_eq (pv 1) pe_int (nomark _))))))))), ?_⟩
  obtain ⟨u, hu⟩ := L.at_ r
  refine ⟨_, rfl, _, _, _, _, _, rfl, .ty _, ty_str _, kss, _, rfl, iteT ⟨_, rfl, _, _, rfl, rfl, hu, _, rfl, iteT ⟨_, rfl, rfl, _, rfl, ?_⟩⟩⟩
  rcases ho with rfl | rfl
  · refine iteTd (by decide +kernel) ?_
    exact q
  · cases r with
    | one =>
      refine iteTd (by decide +kernel) ?_
      exact q
    | two => exact iteFd (by decide +kernel) ⟨_, rfl, rfl, q⟩
    | both => exact iteFd (by decide +kernel) ⟨_, rfl, rfl, q⟩
abbrev s_is_standing_told : Stmt := top 31
abbrev N_is_standing_told : List Str := ["value", "ins", "outs", "many", "many_rows", "row"]
theorem sc_is_standing_told : FnScope N_is_standing_told ["value", "ins", "outs", "many"] (defScope s_is_standing_told) := ⟨rfl, rfl, rfl, by decide +kernel, rfl, by decide +kernel, by decide +kernel⟩
theorem ok_is_standing_told (F : Fun K "is_standing_told" "is_standing_told" s_is_standing_told f fd) (T : Txt K mg aS a1 a2) (c_are_read : C8.Cal P w K mg base 1 "are_read" spAreRead []) (c_is_list : C8.Cal P w K mg base 1 "is_list" spIsList []) (c_is_row : C8.Cal P w K mg base 4 "is_row" spIsRow []) : FnOk P w K mg base CX0 5 f fd ["value", "ins", "outs", "many"] spIsTold := by
  refine F.ok sc_is_standing_told (fun vs H Q E h => ?_) (fun cdv A outer s H vs Q E hr h => ?_)
  · obtain ⟨v, r, i, o, m, rfl, _⟩ := h
    rfl
  obtain ⟨v, sg, ins, outs, many, rfl, ⟨a, l, ws, rfl, ha, hl, pr⟩, ⟨o1, o2, o3⟩, ho2, q⟩ := h
  refine ⟨_, (pss_cons (ps_if (PW.pt (pw_or (pt_not (pt_val (pe_callB (kIsi K rfl) rfl T.b_isinstance bt_isinstance (pa_cons (pv 0) (pa_cons (pTy rfl T.b_tuple bt_tuple) pa_nil))))) (pw_or (pt_cmpR op_ne (pe_callB (kLen K rfl) rfl T.b_len bt_len (pa_cons (pv 0) pa_nil)) pe_int (nomark _)) (pw_or (pt_not (pt_val (C8.pe_c c_are_read hr (by decide) rfl (pa_cons (pe_ix (kIxT K rfl) (pv 0) pe_int (fun _ _ => rfl)) (pa_cons (pv 1) pa_nil))))) (pw_or1 (pt_not (pt_val (C8.pe_c c_is_list hr (by decide) rfl (pa_cons (pe_ix (kIxT K rfl) (pv 0) pe_int (fun _ _ => rfl)) pa_nil)))))))))
        (pss_one (ps_ret pe_bl))
        pss_nil)
        (pss_cons (ps_set (i := 4) sc_is_standing_told.nd rfl (Or.inl rfl) (pe_ifExp (pt_cmpR op_eq (pe_ix (kIxT K rfl) (pv 0) pe_int (fun _ _ => rfl)) pe_str (nomark _)) pe_int pe_int))
        (pss_one (ps_ret (pe_and (pe_cmpR op_eq (pe_callB (kLen K rfl) rfl T.b_len bt_len (pa_cons (pe_ix (kIxT K rfl) (pv 0) pe_int (fun _ _ => rfl)) pa_nil)) (pv 4) (nomark _)) (pe_one (pe_callB (kAll K rfl rfl) rfl T.b_all bt_all (pa_cons (pe_lc (own := [("row", 5)]) rfl sc_is_standing_told.nd (kList K rfl (pe_ix (kIxT K rfl) (pv 0) pe_int (fun _ _ => rfl))) (blkOk_by (N := N_is_standing_told) (sc := defScope s_is_standing_told) (by decide +kernel)) (fun _ _ _ _ _ => (pg_name (i := 5) sc_is_standing_told.nd rfl (Or.inl rfl))) (fun _ _ _ _ _ => pts_nil) (fun _ _ _ _ _ => (C8.pe_c c_is_row hr (by decide) rfl (pa_cons (pv 5) (pa_cons (pv 2) (pa_cons (pv 3) pa_nil)))))) pa_nil)))))))), ?_⟩
  refine ⟨_, rfl, _, _, _, _, _, rfl, .ty _, ty_tup ha, ktt, _, rfl, iteF ⟨_, rfl, _, _, rfl, .inr (SqT.of ha), rfl, _, rfl, iteFd (by rw [dec_int]; rfl) ⟨_, rfl, _, _, _, _, rfl, rfl, SqT.of ha, rfl, _, rfl, sg.reads, ins, rfl, o1, _, rfl, iteF ⟨_, rfl, _, _, _, _, rfl, rfl, SqT.of ha, rfl, l, _, rfl, hl, fun H1 s1 => ⟨_, rfl, iteF ?_⟩⟩⟩⟩⟩
  have ha1 := s1 _ _ ha
  have hl1 := s1 _ _ hl
  have hwl := paired_len pr
  refine ⟨_, rfl, _, _, _, _, rfl, rfl, SqT.of ha1, rfl, rfl, _, rfl, ?_⟩
  obtain ⟨rd, rows⟩ := sg
  cases rd with
  | one =>
    refine iteFd (by decide +kernel : decide (V.str Rd.one.s = V.str ("12" : Str)) = false) ?_
    refine ⟨_, rfl, _, _, _, _, rfl, rfl, SqT.of ha1, rfl, _, _, rfl, .inl (SqL.of hl1), _, rfl, rfl, _, rfl, iteTd (by rw [dec_int, hwl, o2]; rfl) ?_⟩
    refine ⟨_, rfl, _, _, _, _, rfl, rfl, SqT.of ha1, rfl, _, rfl, ⟨_, SqL.of hl1⟩, fun D hD => lc_it walk_list (fun i H' => Same H1 H' ∧ H' D = some (.lst (List.replicate i (.bl true)))) ⟨same_new hD _, upd_same⟩ (fun i H' _ z => SqL.of (z.1 _ _ hl1)) ?_ ?_⟩
    · rintro i x H2 H3 hi ⟨sm, hd⟩ ⟨rfl, hx⟩
      obtain ⟨r, hr, hxr⟩ := paired_get pr hx
      have hil := lt_len hr
      refine ⟨rfl, tyI ⟨_, rfl, _, rfl, _, rfl, x, r, outs, many, rfl, hxr.keep (Tups.of (s1.trans' sm)), o3 r (List.mem_of_getElem? hr), ho2, fun H4 s4 => ?_⟩⟩
      refine ⟨_, s4 _ _ hd, ?_, same_at (sm.trans' s4) hD, ?_⟩
      · rw [List.length_replicate]
        exact Nat.lt_of_lt_of_le (show i < 100000 by rw [o2] at hil; exact Nat.lt_of_lt_of_le hil (Rd.many_le _)) (by decide)
      · rw [upd_same, List.replicate_succ']
    · rintro H2 ⟨sm, hd⟩
      refine ⟨_, List.replicate _ true, rfl, SqL.of (by rw [hd, List.map_replicate]), ?_⟩
      rw [show ∀ m, (List.replicate m true).all id = true from fun m => by simp]
      exact q _ (s1.trans' sm)
  | two =>
    refine iteFd (by decide +kernel : decide (V.str Rd.two.s = V.str ("12" : Str)) = false) ?_
    refine ⟨_, rfl, _, _, _, _, rfl, rfl, SqT.of ha1, rfl, _, _, rfl, .inl (SqL.of hl1), _, rfl, rfl, _, rfl, iteTd (by rw [dec_int, hwl, o2]; rfl) ?_⟩
    refine ⟨_, rfl, _, _, _, _, rfl, rfl, SqT.of ha1, rfl, _, rfl, ⟨_, SqL.of hl1⟩, fun D hD => lc_it walk_list (fun i H' => Same H1 H' ∧ H' D = some (.lst (List.replicate i (.bl true)))) ⟨same_new hD _, upd_same⟩ (fun i H' _ z => SqL.of (z.1 _ _ hl1)) ?_ ?_⟩
    · rintro i x H2 H3 hi ⟨sm, hd⟩ ⟨rfl, hx⟩
      obtain ⟨r, hr, hxr⟩ := paired_get pr hx
      have hil := lt_len hr
      refine ⟨rfl, tyI ⟨_, rfl, _, rfl, _, rfl, x, r, outs, many, rfl, hxr.keep (Tups.of (s1.trans' sm)), o3 r (List.mem_of_getElem? hr), ho2, fun H4 s4 => ?_⟩⟩
      refine ⟨_, s4 _ _ hd, ?_, same_at (sm.trans' s4) hD, ?_⟩
      · rw [List.length_replicate]
        exact Nat.lt_of_lt_of_le (show i < 100000 by rw [o2] at hil; exact Nat.lt_of_lt_of_le hil (Rd.many_le _)) (by decide)
      · rw [upd_same, List.replicate_succ']
    · rintro H2 ⟨sm, hd⟩
      refine ⟨_, List.replicate _ true, rfl, SqL.of (by rw [hd, List.map_replicate]), ?_⟩
      rw [show ∀ m, (List.replicate m true).all id = true from fun m => by simp]
      exact q _ (s1.trans' sm)
  | both =>
    refine iteTd (by decide +kernel : decide (V.str Rd.both.s = V.str ("12" : Str)) = true) ?_
    refine ⟨_, rfl, _, _, _, _, rfl, rfl, SqT.of ha1, rfl, _, _, rfl, .inl (SqL.of hl1), _, rfl, rfl, _, rfl, iteTd (by rw [dec_int, hwl, o2]; rfl) ?_⟩
    refine ⟨_, rfl, _, _, _, _, rfl, rfl, SqT.of ha1, rfl, _, rfl, ⟨_, SqL.of hl1⟩, fun D hD => lc_it walk_list (fun i H' => Same H1 H' ∧ H' D = some (.lst (List.replicate i (.bl true)))) ⟨same_new hD _, upd_same⟩ (fun i H' _ z => SqL.of (z.1 _ _ hl1)) ?_ ?_⟩
    · rintro i x H2 H3 hi ⟨sm, hd⟩ ⟨rfl, hx⟩
      obtain ⟨r, hr, hxr⟩ := paired_get pr hx
      have hil := lt_len hr
      refine ⟨rfl, tyI ⟨_, rfl, _, rfl, _, rfl, x, r, outs, many, rfl, hxr.keep (Tups.of (s1.trans' sm)), o3 r (List.mem_of_getElem? hr), ho2, fun H4 s4 => ?_⟩⟩
      refine ⟨_, s4 _ _ hd, ?_, same_at (sm.trans' s4) hD, ?_⟩
      · rw [List.length_replicate]
        exact Nat.lt_of_lt_of_le (show i < 100000 by rw [o2] at hil; exact Nat.lt_of_lt_of_le hil (Rd.many_le _)) (by decide)
      · rw [upd_same, List.replicate_succ']
    · rintro H2 ⟨sm, hd⟩
      refine ⟨_, List.replicate _ true, rfl, SqL.of (by rw [hd, List.map_replicate]), ?_⟩
      rw [show ∀ m, (List.replicate m true).all id = true from fun m => by simp]
      exact q _ (s1.trans' sm)
end
end FY


set_option Elab.async false
set_option linter.all false
set_option maxRecDepth 100000
set_option maxHeartbeats 4000000
namespace FY
open PySem L2 FYR
theorem kTupOf {X : Cx} (K : PySem.W.Frag) (hK : X.K = K) : CallR X (.type "tuple") (fun xs H Q => ∃ p ys, xs = [.ref p] ∧ ((SqL K H p ys ∧ ∀ l, H l = none → Q (.ref l) (upd H l (.tup ys))) ∨ (SqT K H p ys ∧ Q (.ref p) H))) := by subst hK; exact call_tuple_of
def sflds (ins outs : Nat) (p : Addr) : List (Str × V) := [("own_ins", .int ins), ("own_outs", .int outs), ("own_standings", .ref p)]
/-- the value is a Station of the class at C -/
def StnA (C : Addr) (H : Hp) (v : V) (t : Stn) : Prop := ∃ a dx p ps, v = .ref a ∧ H a = some (.ins C dx (sflds t.ins t.outs p)) ∧ H p = some (.tup ps) ∧ Paired (SgA H) ps t.stgs
structure StC (K : PySem.W.Frag) (mg : Str → Option Value) (C : Addr) : Prop where
  g_Station : ∃ u, mg "Station" = some u ∧ RelV (.ref C) u
  cl : Cls K C
  nI : NoAttr K C "own_ins"
  nO : NoAttr K C "own_outs"
  nS : NoAttr K C "own_standings"
theorem sgA_all {H H' : Hp} (k : Tups H H') : ∀ {ws : List V} {rs : List Sg}, Paired (SgA H) ws rs → Paired (SgA H') ws rs
  | _, _, .nil => .nil
  | _, _, .cons r q => .cons (r.keep k) (sgA_all k q)
theorem told_all {H H' : Hp} (k : Same H H') : ∀ {ws : List V} {rs : List Sg}, Paired (ToldA H) ws rs → Paired (ToldA H') ws rs
  | _, _, .nil => .nil
  | _, _, .cons r q => .cons (r.same k) (told_all k q)
/-- all but the instance at a -/
def But (a : Addr) (H H' : Hp) : Prop := ∀ b o, b ≠ a → H b = some o → H' b = some o
theorem But.tups {a C dx : Addr} {fs : List (Str × V)} {H H' : Hp} (k : But a H H') (ha : H a = some (.ins C dx fs)) : Tups H H' := fun b xs e => k b _ (fun z => by rw [z, ha] at e; cases e) e
theorem But.lst {a C dx : Addr} {fs : List (Str × V)} {H H' : Hp} (k : But a H H') (ha : H a = some (.ins C dx fs)) {L : Addr} {xs : List V} (e : H L = some (.lst xs)) : H' L = some (.lst xs) := k L _ (fun z => by rw [z, ha] at e; cases e) e
theorem ToldA.but {a C dx : Addr} {fs : List (Str × V)} {H H' : Hp} (k : But a H H') (ha : H a = some (.ins C dx fs)) {v : V} {s : Sg} (h : ToldA H v s) : ToldA H' v s := by
  obtain ⟨b, q, ws, e, h1, h2, p⟩ := h
  exact ⟨b, q, ws, e, k.tups ha _ _ h1, k.lst ha h2, rwA_all (k.tups ha) p⟩
theorem told_but {a C dx : Addr} {fs : List (Str × V)} {H H' : Hp} (k : But a H H') (ha : H a = some (.ins C dx fs)) : ∀ {ws : List V} {rs : List Sg}, Paired (ToldA H) ws rs → Paired (ToldA H') ws rs
  | _, _, .nil => .nil
  | _, _, .cons r q => .cons (r.but k ha) (told_but k ha q)
theorem pf1 (x y : V) : putF "own_outs" y [("own_ins", x)] = ([("own_ins", x), ("own_outs", y)] : List (Str × V)) := by
  show (if ("own_ins" : Str) = "own_outs" then _ else _) = _
  rw [if_neg (by decide +kernel)]
  rfl
theorem pf2 (x y z : V) : putF "own_standings" z [("own_ins", x), ("own_outs", y)] = ([("own_ins", x), ("own_outs", y), ("own_standings", z)] : List (Str × V)) := by
  show (if ("own_ins" : Str) = "own_standings" then _ else (("own_ins" : Str), x) :: (if ("own_outs" : Str) = "own_standings" then _ else _)) = _
  rw [if_neg (by decide +kernel), if_neg (by decide +kernel)]
  rfl
def spStInit (C : Addr) : Sp := fun vs H Q _ => ∃ (a L dx : Addr) (ws : List V) (t : Stn), vs = [.ref a, .int t.ins, .int t.outs, .ref L] ∧ H a = some (.ins C dx []) ∧ H L = some (.lst ws) ∧ Paired (ToldA H) ws t.stgs ∧ t.ok ∧ ∀ H', (∀ b o, b ≠ a → H b = some o → H' b = some o) → StnA C H' (.ref a) t → Q .non H'
section
variable {P : Program} {w : World} {K : PySem.W.Frag} {mg : Str → Option Value} {base : Heap} {aS a1 a2 aL : Addr} {f : Addr} {fd : FuncData} {C : Addr}
abbrev s_Station___init__ : Stmt := inClass (top 33) 0
abbrev N_Station___init__ : List Str := ["self", "ins", "outs", "standings", "position", "told", "reads", "rows"]
theorem sc_Station___init__ : FnScope N_Station___init__ ["self", "ins", "outs", "standings"] (defScope s_Station___init__) := ⟨rfl, rfl, rfl, by decide +kernel, rfl, by decide +kernel, by decide +kernel⟩
theorem ok_Station_init (F : Fun K "__init__" "Station.__init__" s_Station___init__ f fd) (T : Txt K mg aS a1 a2) (S : StC K mg C) (c_is_integer : C8.Cal P w K mg base 1 "is_integer" spIsInt []) (c_is_list : C8.Cal P w K mg base 1 "is_list" spIsList []) (c_is_standing_told : C8.Cal P w K mg base 5 "is_standing_told" spIsTold []) : FnOk P w K mg base CX0 6 f fd ["self", "ins", "outs", "standings"] (spStInit C) := by
  refine F.ok sc_Station___init__ (fun vs H Q E h => ?_) (fun cdv A outer s H vs Q E hr h => ?_)
  · obtain ⟨a, L, dx, ws, t, rfl, _⟩ := h
    rfl
  obtain ⟨a, L, dx, ws, t, rfl, ha, hL, pr, tok, q⟩ := h
  have i1 := tok.i1
  have i2 := tok.i2
  have o1 := tok.o1
  have o2 := tok.o2
  have m1 := tok.m1
  have m2 := tok.m2
  have hwl := paired_len pr
  refine ⟨_, (pss_cons (ps_if (PW.pt (pw_or (pt_not (pt_val (C8.pe_c c_is_integer hr (by decide) rfl (pa_cons (pv 1) pa_nil)))) (pw_or1 (pt_not (pt_chain op_le op_le pe_int (pv 1) pe_int)))))
        (pss_one ps_never)
        pss_nil)
        (pss_cons (ps_if (PW.pt (pw_or (pt_not (pt_val (C8.pe_c c_is_integer hr (by decide) rfl (pa_cons (pv 2) pa_nil)))) (pw_or1 (pt_not (pt_chain op_le op_le pe_int (pv 2) pe_int)))))
        (pss_one ps_never)
        pss_nil)
        (pss_cons (ps_if (PW.pt (pw_or (pt_not (pt_val (C8.pe_c c_is_list hr (by decide) rfl (pa_cons (pv 3) pa_nil)))) (pw_or1 (pt_not (pt_chain op_le op_le pe_int (pe_callB (kLen K rfl) rfl T.b_len bt_len (pa_cons (pv 3) pa_nil)) (C8.pe_gc rfl T.g_MOST_STANDINGS))))))
        (pss_one ps_never)
        pss_nil)
        (pss_cons (ps_for PassesOwn.never rfl (kEnum K rfl rfl T.b_enumerate (pa_cons (pv 3) pa_nil)) (kTupG (n := 2) K rfl rfl (pgs_cons (pg_name (i := 4) sc_Station___init__.nd rfl (Or.inl rfl)) (pgs_cons (pg_name (i := 5) sc_Station___init__.nd rfl (Or.inl rfl)) pgs_nil)))
        (pss_one (ps_if (pt_not (pt_val (C8.pe_c c_is_standing_told hr (by decide) rfl (pa_cons (pv 5) (pa_cons (pv 1) (pa_cons (pv 2) (pa_cons (pe_callB (kLen K rfl) rfl T.b_len bt_len (pa_cons (pv 3) pa_nil)) pa_nil)))))))
        (pss_one ps_never)
        pss_nil)))
        (pss_cons (kSetF K rfl (pv 0) (pv 1))
        (pss_cons (kSetF K rfl (pv 0) (pv 2))
        (pss_one (kSetF K rfl (pv 0) (pe_callTy (kTupOf K rfl) rfl T.b_tuple bt_tuple (pa_cons (pe_lc (own := [("reads", 6), ("rows", 7)]) rfl sc_Station___init__.nd (kList K rfl (pv 3)) (blkOk_by (N := N_Station___init__) (sc := defScope s_Station___init__) (by decide +kernel)) (fun _ _ _ _ _ => (kTupG (n := 2) K rfl rfl (pgs_cons (pg_name (i := 6) sc_Station___init__.nd rfl (Or.inl rfl)) (pgs_cons (pg_name (i := 7) sc_Station___init__.nd rfl (Or.inl rfl)) pgs_nil)))) (fun _ _ _ _ _ => pts_nil) (fun _ _ _ _ _ => (pe_tup (pa_cons (pv 6) (pa_cons (pe_callTy (kTupOf K rfl) rfl T.b_tuple bt_tuple (pa_cons (pv 7) pa_nil)) pa_nil))))) pa_nil)))))))))), ?_⟩
  refine ⟨_, rfl, _, rfl, _, rfl, iteF ⟨_, rfl, _, _, rfl, rfl, _, rfl, iteTd (by simp; omega) ⟨_, _, rfl, rfl, _, rfl, iteFd (by simp; omega) ?_⟩⟩⟩
  refine ⟨_, rfl, _, rfl, _, rfl, iteF ⟨_, rfl, _, _, rfl, rfl, _, rfl, iteTd (by simp; omega) ⟨_, _, rfl, rfl, _, rfl, iteFd (by simp; omega) ?_⟩⟩⟩
  refine ⟨_, rfl, L, _, rfl, hL, fun H1 s1 => ⟨_, rfl, iteF ⟨_, rfl, _, _, rfl, .inl (SqL.of (s1 _ _ hL)), _, _, rfl, rfl, _, rfl, iteTd (by simp; omega) ⟨_, _, rfl, rfl, _, rfl, iteFd (by simp; omega) ?_⟩⟩⟩⟩
  have hL1 := s1 _ _ hL
  refine ⟨_, rfl, _, _, rfl, SqL.of hL1, for_it walk_enum (fun i σ H' => ∃ z4 z5 : Option V, σ = [some (.ref a), some (.int t.ins), some (.int t.outs), some (.ref L), z4, z5, none, none] ∧ Same H H') ⟨_, _, rfl, s1⟩ (fun i σ H' _ ⟨_, _, _, e⟩ => SqL.of (e _ _ hL)) ?_ ?_⟩
  · rintro i x σ H2 H3 hi ⟨z4, z5, rfl, sm⟩ ⟨T0, p1, p2, rfl, hT0, rfl, hp1, hp2⟩
    obtain ⟨sg, hsg, hx⟩ := paired_get pr hp2
    have k0 := same_new hT0 (.tup [p1, p2])
    refine ⟨_, _, rfl, SqT.of upd_same, rfl, _, _, rfl, _, _, rfl, rfl, ?_⟩
    refine ⟨_, rfl, _, rfl, _, rfl, _, rfl, _, _, rfl, .inl (SqL.of (k0 _ _ (sm _ _ hL))), p2, sg, t.ins, t.outs, ws.length, rfl, hx.same (sm.trans' k0), ?_, o2, fun H4 s4 => ⟨_, rfl, iteF ⟨_, _, rfl, (sm.trans' k0).trans' s4⟩⟩⟩
    have := tok.sg sg (List.mem_of_getElem? hsg)
    rw [hwl]
    exact this
  · rintro σ H2 ⟨z4, z5, rfl, sm⟩
    have ha2 := sm _ _ ha
    have hLa : L ≠ a := fun z => by rw [z, ha] at hL; cases hL
    refine ⟨_, rfl, _, rfl, a, C, dx, _, rfl, ha2, S.cl, S.nI, by decide, ?_⟩
    refine ⟨_, rfl, _, rfl, a, C, dx, [("own_ins", .int t.ins)], rfl, upd_same, S.cl, S.nO, Nat.lt_of_lt_of_le (Nat.lt_succ_self 1) (by decide : 2 ≤ 1000), ?_⟩
    rw [pf1]
    obtain ⟨H4, hH4⟩ : ∃ H4, H4 = upd (upd H2 a (.ins C dx (putF "own_ins" (.int t.ins) []))) a (.ins C dx [("own_ins", .int t.ins), ("own_outs", .int t.outs)]) := ⟨_, rfl⟩
    have ha4 : H4 a = some (.ins C dx [("own_ins", .int t.ins), ("own_outs", .int t.outs)]) := by rw [hH4, upd_same]
    have b4 : But a H H4 := fun b o hb e => by rw [hH4, upd_ne hb, upd_ne hb]; exact sm _ _ e
    rw [← hH4]
    clear hH4
    have hL4 := b4.lst ha hL
    have pr4 := told_but b4 ha pr
    refine ⟨_, rfl, _, rfl, ⟨_, SqL.of hL4⟩, fun D hD => lc_it walk_list (fun i H' => Same H4 H' ∧ ∃ us, H' D = some (.lst us) ∧ Paired (SgA H') us (t.stgs.take i)) ⟨same_new hD _, [], upd_same, .nil⟩ (fun i H' _ z => SqL.of (z.1 _ _ hL4)) ?_ ?_⟩
    · rintro i x H5 H6 hi ⟨sm5, us, hd, pu⟩ ⟨rfl, hx⟩
      obtain ⟨sg, hsg, hxs⟩ := paired_get pr4 hx
      obtain ⟨b, l, rs, rfl, hb, hl, prs⟩ := hxs.same sm5
      have hlu := paired_len pu
      have hil := lt_len hsg
      refine ⟨_, _, rfl, SqT.of hb, rfl, _, _, rfl, _, _, rfl, rfl, rfl, tyI ⟨_, rfl, _, rfl, _, _, rfl, .inl ⟨SqL.of hl, fun p1 hp1 => ⟨sz rfl, fun p2 hp2 => ?_⟩⟩⟩⟩
      have k1 := same_new hp1 (.tup rs)
      have k2 := same_new hp2 (.tup [.str sg.reads.s, .ref p1])
      have hd2 := k2 _ _ (k1 _ _ hd)
      have tu : Tups H6 (upd (upd (upd H6 p1 (.tup rs)) p2 (.tup [.str sg.reads.s, .ref p1])) D (.lst (us ++ [.ref p2]))) := (Tups.of (k1.trans' k2)).trans (tups_at hd2)
      refine ⟨_, hd2, ?_, same_at ((sm5.trans' k1).trans' k2) hD, us ++ [.ref p2], upd_same, ?_⟩
      · rw [List.length_take] at hlu
        exact Nat.lt_of_lt_of_le (show us.length < 100000 by omega) (by decide)
      · rw [List.take_succ, hsg]
        refine paired_app (sgA_all tu pu) (.cons ⟨p2, p1, rs, rfl, tups_at hd2 _ _ upd_same, tups_at hd2 _ _ (k2 _ _ upd_same), rwA_all tu prs⟩ .nil)
    · rintro H5 ⟨sm5, us, hd, pu⟩
      rw [hwl, List.take_of_length_le (Nat.le_refl _)] at pu
      refine ⟨_, _, rfl, .inl ⟨SqL.of hd, fun p hp => ?_⟩⟩
      have kp := same_new hp (.tup us)
      refine ⟨_, rfl, a, C, dx, _, rfl, kp _ _ (sm5 _ _ ha4), S.cl, S.nS, Nat.lt_of_lt_of_le (Nat.lt_succ_self 2) (by decide : 3 ≤ 1000), ?_⟩
      rw [pf2]
      have haK : upd H5 p (.tup us) a = some (.ins C dx [("own_ins", .int t.ins), ("own_outs", .int t.outs)]) := kp _ _ (sm5 _ _ ha4)
      have bK : But a (upd H5 p (.tup us)) (upd (upd H5 p (.tup us)) a (.ins C dx [("own_ins", .int t.ins), ("own_outs", .int t.outs), ("own_standings", .ref p)])) := fun b o hb e => by rw [upd_ne hb]; exact e
      refine q _ (fun b o hb e => bK b o hb (kp _ _ (sm5 _ _ (b4 b o hb e)))) ⟨a, dx, p, us, rfl, upd_same, bK.tups haK _ _ upd_same, sgA_all ((Tups.of kp).trans (bK.tups haK)) pu⟩
end
end FY


set_option Elab.async false
set_option linter.all false
set_option maxRecDepth 100000
set_option maxHeartbeats 4000000
namespace FY
open PySem L2 FYR
def r1 (b : List Bool) (n : Nat) : Rw := ⟨[b], n, 1⟩
theorem r1_ok {b : List Bool} {n m : Nat} (hb : b.length ≤ 2) (h : n < m) : (r1 b n).ok 1 m := ⟨rfl, fun g hg => by
  obtain rfl : g = b := by simpa [r1] using hg
  exact hb, h, Nat.le_refl 1, (by decide : 1 ≤ 9)⟩
def spRow : Sp := fun vs H Q _ => ∃ (b : List Bool) (n : Nat), vs = [.str (tx b), .int n] ∧ ∀ H' v, Same H H' → RwA H' v (r1 b n) → Q v H'
/-- Station(i, o, ..) -/
theorem make_st {C L : Addr} {H1 : Hp} {t : Stn} {ws : List V} {Q : VK} {E : XK} (hL : H1 L = some (.lst ws)) (pr : Paired (ToldA H1) ws t.stgs) (ok : t.ok) (hq : ∀ H' v, Same H1 H' → StnA C H' v t → Q v H') :
    ∀ x dx, H1 x = none → H1 dx = none → dx ≠ x → spStInit C [.ref x, .int t.ins, .int t.outs, .ref L] (upd (upd H1 dx (.own x)) x (.ins C dx [])) (fun v H2 => v = .non ∧ Q (.ref x) H2) E := by
  intro x dx hx hdx hne
  have s1 : Same H1 (upd (upd H1 dx (.own x)) x (.ins C dx [])) := fun b o e => by
    rw [upd_ne (ne_of_none e hx), upd_ne (ne_of_none e hdx)]
    exact e
  exact ⟨x, L, dx, ws, t, rfl, upd_same, s1 _ _ hL, told_all s1 pr, ok, fun H' k st => ⟨rfl, hq _ _ (fun b o e => k b o (ne_of_none e hx) (s1 _ _ e)) st⟩⟩
def RowsA (H : Hp) (v : V) (rs : List Rw) : Prop := ∃ l ws, v = .ref l ∧ H l = some (.lst ws) ∧ Paired (RwA H) ws rs
theorem RowsA.same {H H' : Hp} (k : Same H H') {v : V} {s : List Rw} (h : RowsA H v s) : RowsA H' v s := by
  obtain ⟨l, ws, e, h1, p⟩ := h
  exact ⟨l, ws, e, k _ _ h1, rwA_all (Tups.of k) p⟩
theorem rowsA_all {H H' : Hp} (k : Same H H') : ∀ {ws : List V} {rs : List (List Rw)}, Paired (RowsA H) ws rs → Paired (RowsA H') ws rs
  | _, _, .nil => .nil
  | _, _, .cons r q => .cons (r.same k) (rowsA_all k q)
def wayOf (rss : List (List Rw)) : Stn := ⟨1, 1, rss.map fun rs => ⟨.one, rs⟩⟩
def wayOk (rss : List (List Rw)) : Prop := 1 ≤ rss.length ∧ rss.length ≤ 4 ∧ ∀ rs ∈ rss, rs.length = 2 ∧ ∀ r ∈ rs, r.ok 1 rss.length
theorem way_ok {rss : List (List Rw)} (h : wayOk rss) : (wayOf rss).ok := by
  obtain ⟨h1, h2, h3⟩ := h
  refine ⟨Nat.le_refl 1, (by decide : 1 ≤ 2), Nat.le_refl 1, (by decide : 1 ≤ 2), by simpa [wayOf] using h1, by simpa [wayOf] using h2, fun s hs => ?_⟩
  obtain ⟨rs, hrs, rfl⟩ := List.mem_map.mp hs
  obtain ⟨e1, e2⟩ := h3 rs hrs
  refine ⟨.inl rfl, e1, fun r hr => ?_⟩
  have := e2 r hr
  simpa [wayOf] using this
def TolP (H0 H : Hp) (v : V) (rs : List Rw) : Prop := ∃ a q ws, v = .ref a ∧ H a = some (.tup [.str "1", .ref q]) ∧ H0 q = some (.lst ws) ∧ Paired (RwA H0) ws rs
theorem tolP_keep {H0 H H' : Hp} (k : Tups H H') : ∀ {vs : List V} {rss : List (List Rw)}, Paired (TolP H0 H) vs rss → Paired (TolP H0 H') vs rss
  | _, _, .nil => .nil
  | _, _, .cons ⟨a, q, ws, e, h, r⟩ p => .cons ⟨a, q, ws, e, k _ _ h, r⟩ (tolP_keep k p)
theorem tolP_told {H0 H : Hp} (s : Same H0 H) : ∀ {vs : List V} {rss : List (List Rw)}, Paired (TolP H0 H) vs rss → Paired (ToldA H) vs (rss.map fun rs => ⟨.one, rs⟩)
  | _, _, .nil => .nil
  | _, _, .cons ⟨a, q, ws, e, h, h2, r⟩ p => .cons ⟨a, q, ws, e, h, s _ _ h2, rwA_all (Tups.of s) r⟩ (tolP_told s p)
def spOneWay (C : Addr) : Sp := fun vs H Q _ => ∃ (R : Addr) (us : List V) (rss : List (List Rw)), vs = [.ref R] ∧ H R = some (.lst us) ∧ Paired (RowsA H) us rss ∧ wayOk rss ∧ ∀ H' v, Same H H' → StnA C H' v (wayOf rss) → Q v H'
def spKept : Sp := fun vs H Q _ => ∃ a b : Bool, vs = [.str (tx [a, b])] ∧ Q (.str (tx (if b then [a] else []))) H
section
variable {P : Program} {w : World} {K : PySem.W.Frag} {mg : Str → Option Value} {base : Heap} {aS a1 a2 aL : Addr} {f : Addr} {fd : FuncData} {C : Addr}
abbrev s_row : Stmt := top 56
abbrev N_row : List Str := ["text", "goal"]
theorem sc_row : FnScope N_row ["text", "goal"] (defScope s_row) := ⟨rfl, rfl, rfl, by decide +kernel, rfl, by decide +kernel, by decide +kernel⟩
theorem ok_row (F : Fun K "row" "row" s_row f fd) : FnOk P w K mg base CX0 1 f fd ["text", "goal"] spRow := by
  refine F.ok sc_row (fun vs H Q E h => ?_) (fun cdv A outer s H vs Q E hr h => ?_)
  · obtain ⟨b, n, rfl, _⟩ := h
    rfl
  obtain ⟨b, n, rfl, q⟩ := h
  refine ⟨_, (pss_one (ps_ret (pe_tup (pa_cons (pe_tup (pa_cons (pv 0) pa_nil)) (pa_cons (pv 1) (pa_cons pe_int pa_nil)))))), ?_⟩
  refine ⟨_, rfl, sz rfl, fun g hg => ⟨_, rfl, sz rfl, fun a ha => q _ _ ((same_new hg _).trans' (same_new ha _)) ⟨a, g, rfl, upd_same, same_new ha _ _ _ upd_same⟩⟩⟩
abbrev s_kept : Stmt := top 60
abbrev N_kept : List Str := ["two"]
theorem sc_kept : FnScope N_kept ["two"] (defScope s_kept) := ⟨rfl, rfl, rfl, by decide +kernel, rfl, by decide +kernel, by decide +kernel⟩
theorem ok_kept (F : Fun K "kept" "kept" s_kept f fd) : FnOk P w K mg base CX0 1 f fd ["two"] spKept := by
  refine F.ok sc_kept (fun vs H Q E h => ?_) (fun cdv A outer s H vs Q E hr h => ?_)
  · obtain ⟨a, b, rfl, _⟩ := h
    rfl
  obtain ⟨a, b, rfl, q⟩ := h
  refine ⟨_, (pss_one (ps_ret (pe_ifExp (pt_cmpR op_eq (pe_ix ix_str (pv 0) pe_int (fun _ _ => rfl)) pe_str (nomark _)) (pe_ix ix_str (pv 0) pe_int (fun _ _ => rfl)) pe_str))), ?_⟩
  have hz : (tx [a, b]).length ≤ sizeLine := by rw [tx_len]; exact small5 (by simp)
  refine ⟨_, rfl, _, _, cd b, rfl, rfl, hz, by rw [tx_toList]; rfl, rfl, _, rfl, ?_⟩
  cases b with
  | true => exact iteTd (by decide +kernel) ⟨_, rfl, _, _, cd a, rfl, rfl, hz, by rw [tx_toList]; rfl, q⟩
  | false =>
    refine iteFd (by decide +kernel) ?_
    have z : Q (.str (tx [])) H := q
    rw [← se] at z
    exact z
abbrev s_one_way : Stmt := top 57
abbrev N_one_way : List Str := ["rows_now", "rows"]
theorem sc_one_way : FnScope N_one_way ["rows_now"] (defScope s_one_way) := ⟨rfl, rfl, rfl, by decide +kernel, rfl, by decide +kernel, by decide +kernel⟩
theorem ok_one_way (F : Fun K "one_way" "one_way" s_one_way f fd) (T : Txt K mg aS a1 a2) (mk_Station : C8.Mak P w K mg base 6 "Station" C (spStInit C) []) : FnOk P w K mg base CX0 8 f fd ["rows_now"] (spOneWay C) := by
  refine F.ok sc_one_way (fun vs H Q E h => ?_) (fun cdv A outer s H vs Q E hr h => ?_)
  · obtain ⟨R, us, rss, rfl, _⟩ := h
    rfl
  obtain ⟨R, us, rss, rfl, hR, pr, wok, q⟩ := h
  refine ⟨_, (pss_one (ps_ret (C8.pe_mk mk_Station hr (by decide) rfl (pa_cons pe_int (pa_cons pe_int (pa_cons (pe_lc (own := [("rows", 1)]) rfl sc_one_way.nd (kList K rfl (pv 0)) (blkOk_by (N := N_one_way) (sc := defScope s_one_way) (by decide +kernel)) (fun _ _ _ _ _ => (pg_name (i := 1) sc_one_way.nd rfl (Or.inl rfl))) (fun _ _ _ _ _ => pts_nil) (fun _ _ _ _ _ => (pe_tup (pa_cons pe_str (pa_cons (pv 1) pa_nil))))) pa_nil)))))), ?_⟩
  have hwl := paired_len pr
  have w4 := wok.2.1
  refine ⟨_, rfl, _, rfl, ⟨_, SqL.of hR⟩, fun D hD => lc_it walk_list (fun i H' => Same H H' ∧ ∃ vs, H' D = some (.lst vs) ∧ Paired (TolP H H') vs (rss.take i)) ⟨same_new hD _, [], upd_same, .nil⟩ (fun i H' _ z => SqL.of (z.1 _ _ hR)) ?_ ?_⟩
  · rintro i x H1 H2 hi ⟨sm, vs, hd, pu⟩ ⟨rfl, hx⟩
    obtain ⟨rs, hrs, l, ws, rfl, hl, prs⟩ := paired_get pr hx
    have hil := lt_len hrs
    have hlu := paired_len pu
    refine ⟨rfl, tyI ⟨_, rfl, sz rfl, fun p hp => ?_⟩⟩
    have k1 := same_new hp (.tup [.str "1", .ref l])
    have hd1 := k1 _ _ hd
    refine ⟨_, hd1, ?_, same_at (sm.trans' k1) hD, vs ++ [.ref p], upd_same, ?_⟩
    · rw [List.length_take] at hlu
      exact Nat.lt_of_lt_of_le (show vs.length < 100000 by omega) (by decide)
    · rw [List.take_succ, hrs]
      exact paired_app (tolP_keep ((Tups.of k1).trans (tups_at hd1)) pu) (.cons ⟨p, l, ws, rfl, tups_at hd1 _ _ upd_same, hl, prs⟩ .nil)
  · rintro H1 ⟨sm, vs, hd, pu⟩
    rw [hwl, List.take_of_length_le (Nat.le_refl _)] at pu
    exact make_st (t := wayOf rss) hd (tolP_told sm pu) (way_ok wok) fun H' v s st => q _ _ (sm.trans' s) st
end
end FY


set_option Elab.async false
set_option linter.all false
set_option maxRecDepth 100000
set_option maxHeartbeats 4000000
namespace FY
open PySem L2 FYR
theorem z00 : ("00" : Str) = tx [false, false] := by decide +kernel
theorem z11 : ("11" : Str) = tx [true, true] := by decide +kernel
theorem z0 : ("0" : Str) = tx [false] := s0
theorem z1 : ("1" : Str) = tx [true] := s1
theorem ze : ("" : Str) = tx [] := se
theorem rowLit {z : Str} {b : List Bool} {n : Nat} (e : z = tx b) : [V.str z, V.int (n : Int)] = [V.str (tx b), V.int n] := by rw [e]
def rowsW : W1 → List (List Rw)
  | .no => [[r1 [true] 0, r1 [false] 0]]
  | .twice => [[r1 [false, false] 0, r1 [true, true] 0]]
  | .half => [[r1 [] 1, r1 [] 1], [r1 [false] 0, r1 [true] 0]]
  | .change => [[r1 [false] 0, r1 [true] 1], [r1 [true] 0, r1 [false] 1]]
  | .count => [[r1 [false] 0, r1 [true] 1], [r1 [true] 1, r1 [false] 0]]
def rowsLate (b : Bool) : List (List Rw) := [[r1 [b] (if b then 1 else 0), r1 [b] (if b then 0 else 1)], [r1 [!b] (if b then 1 else 0), r1 [!b] (if b then 0 else 1)]]
def rowsT : Tm → List (List Rw)
  | .one w _ => rowsW w
  | .late b _ => rowsLate b
  | _ => []
def spLate : Sp := fun vs H Q _ => ∃ b : Bool, vs = [.str (sgn b)] ∧ ∀ H' R us, Same H H' → H' R = some (.lst us) → Paired (RowsA H') us (rowsLate b) → Q (.ref R) H'
def spRowsOf : Sp := fun vs H Q _ => ∃ v t, vs = [v] ∧ TA H v t ∧ t.parts.length = 1 ∧ ∀ H' R us, Same H H' → H' R = some (.lst us) → Paired (RowsA H') us (rowsT t) → Q (.ref R) H'
section
variable {P : Program} {w : World} {K : PySem.W.Frag} {mg : Str → Option Value} {base : Heap} {aS a1 a2 aL : Addr} {f : Addr} {fd : FuncData} {C : Addr}
abbrev s_rows_of : Stmt := top 59
abbrev N_rows_of : List Str := ["term"]
theorem sc_rows_of : FnScope N_rows_of ["term"] (defScope s_rows_of) := ⟨rfl, rfl, rfl, by decide +kernel, rfl, by decide +kernel, by decide +kernel⟩
theorem ok_rows_of (F : Fun K "rows_of" "rows_of" s_rows_of f fd) (c_row : C8.Cal P w K mg base 1 "row" spRow []) (c_late_rows : C8.Cal P w K mg base 2 "late_rows" spLate []) : FnOk P w K mg base CX0 3 f fd ["term"] spRowsOf := by
  refine F.ok sc_rows_of (fun vs H Q E h => ?_) (fun cdv A outer s H vs Q E hr h => ?_)
  · obtain ⟨v, t, rfl, _⟩ := h
    rfl
  obtain ⟨v, t, rfl, ta, hp, q⟩ := h
  refine ⟨_, (pss_cons (ps_if (pt_cmpR op_eq (pe_ix (kIxT K rfl) (pv 0) pe_int (fun _ _ => rfl)) pe_str (nomark _))
        (pss_one (ps_ret (pe_lst (pa_cons (pe_lst (pa_cons (C8.pe_c c_row hr (by decide) rfl (pa_cons pe_str (pa_cons pe_int pa_nil))) (pa_cons (C8.pe_c c_row hr (by decide) rfl (pa_cons pe_str (pa_cons pe_int pa_nil))) pa_nil))) pa_nil))))
        pss_nil)
        (pss_cons (ps_if (pt_cmpR op_eq (pe_ix (kIxT K rfl) (pv 0) pe_int (fun _ _ => rfl)) pe_str (nomark _))
        (pss_one (ps_ret (pe_lst (pa_cons (pe_lst (pa_cons (C8.pe_c c_row hr (by decide) rfl (pa_cons pe_str (pa_cons pe_int pa_nil))) (pa_cons (C8.pe_c c_row hr (by decide) rfl (pa_cons pe_str (pa_cons pe_int pa_nil))) pa_nil))) pa_nil))))
        pss_nil)
        (pss_cons (ps_if (pt_cmpR op_eq (pe_ix (kIxT K rfl) (pv 0) pe_int (fun _ _ => rfl)) pe_str (nomark _))
        (pss_one (ps_ret (pe_lst (pa_cons (pe_lst (pa_cons (C8.pe_c c_row hr (by decide) rfl (pa_cons pe_str (pa_cons pe_int pa_nil))) (pa_cons (C8.pe_c c_row hr (by decide) rfl (pa_cons pe_str (pa_cons pe_int pa_nil))) pa_nil))) (pa_cons (pe_lst (pa_cons (C8.pe_c c_row hr (by decide) rfl (pa_cons pe_str (pa_cons pe_int pa_nil))) (pa_cons (C8.pe_c c_row hr (by decide) rfl (pa_cons pe_str (pa_cons pe_int pa_nil))) pa_nil))) pa_nil)))))
        pss_nil)
        (pss_cons (ps_if (pt_cmpR op_eq (pe_ix (kIxT K rfl) (pv 0) pe_int (fun _ _ => rfl)) pe_str (nomark _))
        (pss_one (ps_ret (pe_lst (pa_cons (pe_lst (pa_cons (C8.pe_c c_row hr (by decide) rfl (pa_cons pe_str (pa_cons pe_int pa_nil))) (pa_cons (C8.pe_c c_row hr (by decide) rfl (pa_cons pe_str (pa_cons pe_int pa_nil))) pa_nil))) (pa_cons (pe_lst (pa_cons (C8.pe_c c_row hr (by decide) rfl (pa_cons pe_str (pa_cons pe_int pa_nil))) (pa_cons (C8.pe_c c_row hr (by decide) rfl (pa_cons pe_str (pa_cons pe_int pa_nil))) pa_nil))) pa_nil)))))
        pss_nil)
        (pss_cons (ps_if (pt_cmpR op_eq (pe_ix (kIxT K rfl) (pv 0) pe_int (fun _ _ => rfl)) pe_str (nomark _))
        (pss_one (ps_ret (pe_lst (pa_cons (pe_lst (pa_cons (C8.pe_c c_row hr (by decide) rfl (pa_cons pe_str (pa_cons pe_int pa_nil))) (pa_cons (C8.pe_c c_row hr (by decide) rfl (pa_cons pe_str (pa_cons pe_int pa_nil))) pa_nil))) (pa_cons (pe_lst (pa_cons (C8.pe_c c_row hr (by decide) rfl (pa_cons pe_str (pa_cons pe_int pa_nil))) (pa_cons (C8.pe_c c_row hr (by decide) rfl (pa_cons pe_str (pa_cons pe_int pa_nil))) pa_nil))) pa_nil)))))
        pss_nil)
        (pss_one (ps_ret (C8.pe_c c_late_rows hr (by decide) rfl (pa_cons (pe_ix (kIxT K rfl) (pv 0) pe_int (fun _ _ => rfl)) pa_nil))))))))), ?_⟩
  cases t with
  | inn => cases hp
  | byy _ _ _ _ _ _ => cases hp
  | keep _ _ => cases hp
  | thn _ _ => cases hp
  | late b t =>
    obtain ⟨a, x, rfl, h, r⟩ := ta
    refine ⟨_, rfl, _, _, _, _, rfl, rfl, SqT.of h, rfl, rfl, _, rfl, iteFd (by decide +kernel) ?_⟩
    refine ⟨_, rfl, _, _, _, _, rfl, rfl, SqT.of h, rfl, rfl, _, rfl, iteFd (by decide +kernel) ?_⟩
    refine ⟨_, rfl, _, _, _, _, rfl, rfl, SqT.of h, rfl, rfl, _, rfl, iteFd (by decide +kernel) ?_⟩
    refine ⟨_, rfl, _, _, _, _, rfl, rfl, SqT.of h, rfl, rfl, _, rfl, iteFd (by decide +kernel) ?_⟩
    refine ⟨_, rfl, _, _, _, _, rfl, rfl, SqT.of h, rfl, rfl, _, rfl, iteFd (by decide +kernel) ?_⟩
    exact ⟨_, rfl, _, _, _, _, rfl, rfl, SqT.of h, rfl, b, rfl, q⟩
  | one w t =>
    obtain ⟨a, x, rfl, h, r⟩ := ta
    cases w with
    | no =>
      refine ⟨_, rfl, _, _, _, _, rfl, rfl, SqT.of h, rfl, rfl, _, rfl, iteTd (by decide +kernel) ?_⟩
      refine ⟨[true], 0, rowLit z1, fun H1 v1 s1 a1 => ?_⟩
      refine ⟨[false], 0, rowLit z0, fun H2 v2 s2 a2 => ?_⟩
      refine ⟨sz rfl, fun l0 hl0 => ?_⟩
      have k0 := same_new hl0 (.lst [v1, v2])
      refine ⟨sz rfl, fun R hR => ?_⟩
      have kR := same_new hR (.lst [.ref l0])
      exact q _ R _ (((s1.trans' s2).trans' k0).trans' kR) upd_same (.cons ⟨l0, _, rfl, kR _ _ upd_same, (.cons (a1.keep (Tups.of ((s2.trans' k0).trans' kR))) (.cons (a2.keep (Tups.of (k0.trans' kR))) .nil))⟩ .nil)
    | twice =>
      refine ⟨_, rfl, _, _, _, _, rfl, rfl, SqT.of h, rfl, rfl, _, rfl, iteFd (by decide +kernel) ?_⟩
      refine ⟨_, rfl, _, _, _, _, rfl, rfl, SqT.of h, rfl, rfl, _, rfl, iteTd (by decide +kernel) ?_⟩
      refine ⟨[false, false], 0, rowLit z00, fun H1 v1 s1 a1 => ?_⟩
      refine ⟨[true, true], 0, rowLit z11, fun H2 v2 s2 a2 => ?_⟩
      refine ⟨sz rfl, fun l0 hl0 => ?_⟩
      have k0 := same_new hl0 (.lst [v1, v2])
      refine ⟨sz rfl, fun R hR => ?_⟩
      have kR := same_new hR (.lst [.ref l0])
      exact q _ R _ (((s1.trans' s2).trans' k0).trans' kR) upd_same (.cons ⟨l0, _, rfl, kR _ _ upd_same, (.cons (a1.keep (Tups.of ((s2.trans' k0).trans' kR))) (.cons (a2.keep (Tups.of (k0.trans' kR))) .nil))⟩ .nil)
    | half =>
      refine ⟨_, rfl, _, _, _, _, rfl, rfl, SqT.of h, rfl, rfl, _, rfl, iteFd (by decide +kernel) ?_⟩
      refine ⟨_, rfl, _, _, _, _, rfl, rfl, SqT.of h, rfl, rfl, _, rfl, iteFd (by decide +kernel) ?_⟩
      refine ⟨_, rfl, _, _, _, _, rfl, rfl, SqT.of h, rfl, rfl, _, rfl, iteTd (by decide +kernel) ?_⟩
      refine ⟨[], 1, rowLit ze, fun H1 v1 s1 a1 => ?_⟩
      refine ⟨[], 1, rowLit ze, fun H2 v2 s2 a2 => ?_⟩
      refine ⟨sz rfl, fun l0 hl0 => ?_⟩
      have k0 := same_new hl0 (.lst [v1, v2])
      refine ⟨[false], 0, rowLit z0, fun H3 v3 s3 a3 => ?_⟩
      refine ⟨[true], 0, rowLit z1, fun H4 v4 s4 a4 => ?_⟩
      refine ⟨sz rfl, fun l1 hl1 => ?_⟩
      have k1 := same_new hl1 (.lst [v3, v4])
      refine ⟨sz rfl, fun R hR => ?_⟩
      have kR := same_new hR (.lst [.ref l0, .ref l1])
      exact q _ R _ ((((((s1.trans' s2).trans' k0).trans' s3).trans' s4).trans' k1).trans' kR) upd_same (.cons ⟨l0, _, rfl, (((s3.trans' s4).trans' k1).trans' kR) _ _ upd_same, (.cons (a1.keep (Tups.of (((((s2.trans' k0).trans' s3).trans' s4).trans' k1).trans' kR))) (.cons (a2.keep (Tups.of ((((k0.trans' s3).trans' s4).trans' k1).trans' kR))) .nil))⟩ (.cons ⟨l1, _, rfl, kR _ _ upd_same, (.cons (a3.keep (Tups.of ((s4.trans' k1).trans' kR))) (.cons (a4.keep (Tups.of (k1.trans' kR))) .nil))⟩ .nil))
    | change =>
      refine ⟨_, rfl, _, _, _, _, rfl, rfl, SqT.of h, rfl, rfl, _, rfl, iteFd (by decide +kernel) ?_⟩
      refine ⟨_, rfl, _, _, _, _, rfl, rfl, SqT.of h, rfl, rfl, _, rfl, iteFd (by decide +kernel) ?_⟩
      refine ⟨_, rfl, _, _, _, _, rfl, rfl, SqT.of h, rfl, rfl, _, rfl, iteFd (by decide +kernel) ?_⟩
      refine ⟨_, rfl, _, _, _, _, rfl, rfl, SqT.of h, rfl, rfl, _, rfl, iteTd (by decide +kernel) ?_⟩
      refine ⟨[false], 0, rowLit z0, fun H1 v1 s1 a1 => ?_⟩
      refine ⟨[true], 1, rowLit z1, fun H2 v2 s2 a2 => ?_⟩
      refine ⟨sz rfl, fun l0 hl0 => ?_⟩
      have k0 := same_new hl0 (.lst [v1, v2])
      refine ⟨[true], 0, rowLit z1, fun H3 v3 s3 a3 => ?_⟩
      refine ⟨[false], 1, rowLit z0, fun H4 v4 s4 a4 => ?_⟩
      refine ⟨sz rfl, fun l1 hl1 => ?_⟩
      have k1 := same_new hl1 (.lst [v3, v4])
      refine ⟨sz rfl, fun R hR => ?_⟩
      have kR := same_new hR (.lst [.ref l0, .ref l1])
      exact q _ R _ ((((((s1.trans' s2).trans' k0).trans' s3).trans' s4).trans' k1).trans' kR) upd_same (.cons ⟨l0, _, rfl, (((s3.trans' s4).trans' k1).trans' kR) _ _ upd_same, (.cons (a1.keep (Tups.of (((((s2.trans' k0).trans' s3).trans' s4).trans' k1).trans' kR))) (.cons (a2.keep (Tups.of ((((k0.trans' s3).trans' s4).trans' k1).trans' kR))) .nil))⟩ (.cons ⟨l1, _, rfl, kR _ _ upd_same, (.cons (a3.keep (Tups.of ((s4.trans' k1).trans' kR))) (.cons (a4.keep (Tups.of (k1.trans' kR))) .nil))⟩ .nil))
    | count =>
      refine ⟨_, rfl, _, _, _, _, rfl, rfl, SqT.of h, rfl, rfl, _, rfl, iteFd (by decide +kernel) ?_⟩
      refine ⟨_, rfl, _, _, _, _, rfl, rfl, SqT.of h, rfl, rfl, _, rfl, iteFd (by decide +kernel) ?_⟩
      refine ⟨_, rfl, _, _, _, _, rfl, rfl, SqT.of h, rfl, rfl, _, rfl, iteFd (by decide +kernel) ?_⟩
      refine ⟨_, rfl, _, _, _, _, rfl, rfl, SqT.of h, rfl, rfl, _, rfl, iteFd (by decide +kernel) ?_⟩
      refine ⟨_, rfl, _, _, _, _, rfl, rfl, SqT.of h, rfl, rfl, _, rfl, iteTd (by decide +kernel) ?_⟩
      refine ⟨[false], 0, rowLit z0, fun H1 v1 s1 a1 => ?_⟩
      refine ⟨[true], 1, rowLit z1, fun H2 v2 s2 a2 => ?_⟩
      refine ⟨sz rfl, fun l0 hl0 => ?_⟩
      have k0 := same_new hl0 (.lst [v1, v2])
      refine ⟨[true], 1, rowLit z1, fun H3 v3 s3 a3 => ?_⟩
      refine ⟨[false], 0, rowLit z0, fun H4 v4 s4 a4 => ?_⟩
      refine ⟨sz rfl, fun l1 hl1 => ?_⟩
      have k1 := same_new hl1 (.lst [v3, v4])
      refine ⟨sz rfl, fun R hR => ?_⟩
      have kR := same_new hR (.lst [.ref l0, .ref l1])
      exact q _ R _ ((((((s1.trans' s2).trans' k0).trans' s3).trans' s4).trans' k1).trans' kR) upd_same (.cons ⟨l0, _, rfl, (((s3.trans' s4).trans' k1).trans' kR) _ _ upd_same, (.cons (a1.keep (Tups.of (((((s2.trans' k0).trans' s3).trans' s4).trans' k1).trans' kR))) (.cons (a2.keep (Tups.of ((((k0.trans' s3).trans' s4).trans' k1).trans' kR))) .nil))⟩ (.cons ⟨l1, _, rfl, kR _ _ upd_same, (.cons (a3.keep (Tups.of ((s4.trans' k1).trans' kR))) (.cons (a4.keep (Tups.of (k1.trans' kR))) .nil))⟩ .nil))
end
end FY


set_option Elab.async false
set_option linter.all false
set_option maxRecDepth 100000
set_option maxHeartbeats 4000000
namespace FY
open PySem L2 FYR
theorem z01 : ("01" : Str) = tx [false, true] := by decide +kernel
abbrev s_late_rows : Stmt := top 58
abbrev N_late_rows : List Str := ["sign", "other", "goals", "heard", "text", "goal"]
theorem sc_late_rows : FnScope N_late_rows ["sign"] (defScope s_late_rows) := ⟨rfl, rfl, rfl, by decide +kernel, rfl, by decide +kernel, by decide +kernel⟩
abbrev lateSc : Scope := { kind := .function, names := [(".0", .local), ("text", .cell), ("goals", .cell)], isGenerator := false, isCoroutine := false }
def RowsP (R : Addr) (H : Hp) (v : V) (rs : List Rw) : Prop := ∃ l ws, v = .ref l ∧ l ≠ R ∧ H l = some (.lst ws) ∧ Paired (RwA H) ws rs
theorem rowsP_keep {R : Addr} {H H' : Hp} {xs ys : List V} (s : Same H H') (hR : H' R = some (.lst xs)) : ∀ {us : List V} {rss : List (List Rw)}, Paired (RowsP R H) us rss → Paired (RowsP R (upd H' R (.lst ys))) us rss
  | _, _, .nil => .nil
  | _, _, .cons ⟨l, ws, e, n, h, p⟩ q => .cons ⟨l, ws, e, n, by rw [upd_ne n]; exact s _ _ h, rwA_all ((Tups.of s).trans (tups_at hR)) p⟩ (rowsP_keep s hR q)
theorem rowsP_rows {R : Addr} {H : Hp} : ∀ {us : List V} {rss : List (List Rw)}, Paired (RowsP R H) us rss → Paired (RowsA H) us rss
  | _, _, .nil => .nil
  | _, _, .cons ⟨l, ws, e, _, h, p⟩ q => .cons ⟨l, ws, e, h, p⟩ (rowsP_rows q)
def gl (b x : Bool) : Nat := if x != b then 1 else 0
section
variable {P : Program} {w : World} {K : PySem.W.Frag} {mg : Str → Option Value} {base : Heap} {aS a1 a2 aL : Addr} {f : Addr} {fd : FuncData} {C : Addr}
theorem ok_late_rows (F : Fun K "late_rows" "late_rows" s_late_rows f fd) (T : Txt K mg aS a1 a2) (c_row : C8.Cal P w K mg base 1 "row" spRow []) : FnOk P w K mg base CX0 2 f fd ["sign"] spLate := by
  refine F.ok sc_late_rows (fun vs H Q E h => ?_) (fun cdv A outer s H vs Q E hr h => ?_)
  · obtain ⟨b, rfl, _⟩ := h
    rfl
  obtain ⟨b, rfl, q⟩ := h
  refine ⟨_, (pss_cons (ps_set (i := 1) sc_late_rows.nd rfl (Or.inl rfl) (pe_ifExp (pt_cmpR op_eq (pv 0) pe_str (nomark _)) pe_str pe_str))
      (pss_cons (ps_set (i := 2) sc_late_rows.nd rfl (Or.inr rfl) (pe_lc (own := [("heard", 3)]) rfl sc_late_rows.nd (pi_str pe_str) (blkOk_by (N := N_late_rows) (sc := defScope s_late_rows) (by decide +kernel)) (fun _ _ _ _ _ => (pg_name (i := 3) sc_late_rows.nd rfl (Or.inl rfl))) (fun _ _ _ _ _ => pts_nil) (fun _ _ _ _ _ => (pe_callTy call_int1 rfl T.b_int bt_int (pa_cons (pe_cmpR op_ne (pv 3) (pv 0) (nomark _)) pa_nil)))))
      (pss_one (ps_ret (pe_lc (own := [("text", 4)]) rfl sc_late_rows.nd (kTup K rfl (pe_tup (pa_cons (pv 0) (pa_cons (pv 1) pa_nil)))) (blkOk_by (N := N_late_rows) (sc := defScope s_late_rows) (by decide +kernel)) (fun _ _ _ _ _ => (pg_name (i := 4) sc_late_rows.nd rfl (Or.inr rfl))) (fun _ _ _ _ _ => pts_nil) (fun _ _ _ _ _ => (pe_lc (own := [("goal", 5)]) rfl sc_late_rows.nd (kList K rfl (pv 2)) (blkOk_by (N := N_late_rows) (sc := lateSc) (by decide +kernel)) (fun _ _ _ _ _ => (pg_name (i := 5) sc_late_rows.nd rfl (Or.inl rfl))) (fun _ _ _ _ _ => pts_nil) (fun _ _ _ _ _ => (C8.pe_c c_row hr (by decide) rfl (pa_cons (pv 4) (pa_cons (pv 5) pa_nil))))))))))), ?_⟩
  refine ⟨_, rfl, rfl, _, rfl, ?_⟩
  cases b with
  | true =>
    refine iteFd (by decide +kernel) ?_
    rw [show ("0" : Str) = sgn (!true) from s0]
    rw [z01]
    refine ⟨_, rfl, fun D hD => lc_it walk_str (fun i H' => Same H H' ∧ H' D = some (.lst (([false, true].take i).map fun x => V.int (gl true x : Nat)))) ⟨same_new hD _, upd_same⟩ (fun _ _ _ _ => trivial) ?_ ?_⟩
    · rintro i x H1 H2 hi ⟨sm, hd⟩ ⟨rfl, c, hc, rfl⟩
      obtain ⟨x, hx, rfl⟩ := tx_char hc
      have hil := lt_len hx
      refine ⟨rfl, tyI ⟨_, rfl, _, rfl, rfl, .inr ⟨_, rfl, ?_⟩⟩⟩
      rw [sg_ne']
      refine ⟨_, hd, take_len_le _ _ _ (by have : i < 2 := hil; omega), same_at sm hD, ?_⟩
      rw [upd_same, ← take_one _ hx]
      cases x <;> rfl
    · rintro H1 ⟨sm, hd⟩
      rw [tx_size, List.take_of_length_le (Nat.le_refl _)] at hd
      refine ⟨_, rfl, _, rfl, sz rfl, fun T0 hT0 => ⟨_, rfl, ⟨_, SqT.of upd_same⟩, fun R hR => ?_⟩⟩
      have k0 := same_new hT0 (.tup [.str (sgn true), .str (sgn (!true))])
      have hd0 := k0 _ _ hd
      have hDR : D ≠ R := fun z => by rw [z, hR] at hd0; cases hd0
      refine lc_it walk_tup (fun i H' => Same (upd H1 T0 (.tup [.str (sgn true), .str (sgn (!true))])) H' ∧ ∃ us, H' R = some (.lst us) ∧ Paired (RowsP R H') us (([true, !true].take i).map fun x => [r1 [x] (gl true false), r1 [x] (gl true true)])) ⟨same_new hR _, [], upd_same, .nil⟩ (fun i H' _ z => SqT.of (z.1 _ _ upd_same)) ?_ ?_
      · rintro i x H3 H4 hi ⟨sm3, us, hR3, pu⟩ ⟨rfl, hx⟩
        obtain ⟨y, hy, rfl⟩ := List.getElem?_map_some (f := fun x : Bool => V.str (sgn x)) (l := [true, !true]) hx
        have hil := lt_len hy
        have hlu := paired_len pu
        have hd3 := sm3 _ _ hd0
        refine ⟨rfl, tyI ⟨_, rfl, _, rfl, ⟨_, SqL.of hd3⟩, fun D2 hD2 => ?_⟩⟩
        have hD2R : D2 ≠ R := fun z => by rw [z, hR3] at hD2; cases hD2
        refine lc_it walk_list (fun k H' => Same H4 H' ∧ ∃ ws, H' D2 = some (.lst ws) ∧ Paired (RwA H') ws (([false, true].take k).map fun x => r1 [y] (gl true x))) ⟨same_new hD2 _, [], upd_same, .nil⟩ (fun k H' _ z => SqL.of (z.1 _ _ hd3)) ?_ ?_
        · rintro k z H5 H6 hk ⟨sm5, ws, hd5, pw⟩ ⟨rfl, hz⟩
          obtain ⟨g, hg, rfl⟩ := List.getElem?_map_some hz
          have hkl := lt_len hg
          have hlw := paired_len pw
          refine ⟨rfl, tyI ⟨_, rfl, _, rfl, [y], gl true g, rfl, fun H7 v7 s7 a7 => ?_⟩⟩
          have hd7 := s7 _ _ hd5
          refine ⟨_, hd7, ?_, same_at (sm5.trans' s7) hD2, ws ++ [v7], upd_same, ?_⟩
          · rw [List.length_map, List.length_take] at hlw
            exact Nat.lt_of_lt_of_le (show ws.length < 100000 by have : k < 2 := hkl; omega) (by decide)
          · rw [← take_one _ hg]
            exact paired_app (rwA_all ((Tups.of s7).trans (tups_at hd7)) pw) (.cons (a7.keep (tups_at hd7)) .nil)
        · rintro H5 ⟨sm5, ws, hd5, pw⟩
          have pw2 : Paired (RwA H5) ws [r1 [y] (gl true false), r1 [y] (gl true true)] := pw
          have hR5 := sm5 _ _ hR3
          refine ⟨_, hR5, ?_, same_at (sm3.trans' sm5) hR, us ++ [.ref D2], upd_same, ?_⟩
          · rw [List.length_map, List.length_take] at hlu
            exact Nat.lt_of_lt_of_le (show us.length < 100000 by have : i < 2 := hil; omega) (by decide)
          · rw [← take_one _ hy]
            exact paired_app (rowsP_keep (sm5) hR5 pu) (.cons ⟨D2, ws, rfl, hD2R, by rw [upd_ne hD2R]; exact hd5, rwA_all (tups_at hR5) pw2⟩ .nil)
      · rintro H3 ⟨sm3, us, hR3, pu⟩
        exact q _ _ _ ((sm.trans' k0).trans' sm3) hR3 (rowsP_rows pu)
  | false =>
    refine iteTd (by decide +kernel) ?_
    rw [show ("1" : Str) = sgn (!false) from s1]
    rw [z01]
    refine ⟨_, rfl, fun D hD => lc_it walk_str (fun i H' => Same H H' ∧ H' D = some (.lst (([false, true].take i).map fun x => V.int (gl false x : Nat)))) ⟨same_new hD _, upd_same⟩ (fun _ _ _ _ => trivial) ?_ ?_⟩
    · rintro i x H1 H2 hi ⟨sm, hd⟩ ⟨rfl, c, hc, rfl⟩
      obtain ⟨x, hx, rfl⟩ := tx_char hc
      have hil := lt_len hx
      refine ⟨rfl, tyI ⟨_, rfl, _, rfl, rfl, .inr ⟨_, rfl, ?_⟩⟩⟩
      rw [sg_ne']
      refine ⟨_, hd, take_len_le _ _ _ (by have : i < 2 := hil; omega), same_at sm hD, ?_⟩
      rw [upd_same, ← take_one _ hx]
      cases x <;> rfl
    · rintro H1 ⟨sm, hd⟩
      rw [tx_size, List.take_of_length_le (Nat.le_refl _)] at hd
      refine ⟨_, rfl, _, rfl, sz rfl, fun T0 hT0 => ⟨_, rfl, ⟨_, SqT.of upd_same⟩, fun R hR => ?_⟩⟩
      have k0 := same_new hT0 (.tup [.str (sgn false), .str (sgn (!false))])
      have hd0 := k0 _ _ hd
      have hDR : D ≠ R := fun z => by rw [z, hR] at hd0; cases hd0
      refine lc_it walk_tup (fun i H' => Same (upd H1 T0 (.tup [.str (sgn false), .str (sgn (!false))])) H' ∧ ∃ us, H' R = some (.lst us) ∧ Paired (RowsP R H') us (([false, !false].take i).map fun x => [r1 [x] (gl false false), r1 [x] (gl false true)])) ⟨same_new hR _, [], upd_same, .nil⟩ (fun i H' _ z => SqT.of (z.1 _ _ upd_same)) ?_ ?_
      · rintro i x H3 H4 hi ⟨sm3, us, hR3, pu⟩ ⟨rfl, hx⟩
        obtain ⟨y, hy, rfl⟩ := List.getElem?_map_some (f := fun x : Bool => V.str (sgn x)) (l := [false, !false]) hx
        have hil := lt_len hy
        have hlu := paired_len pu
        have hd3 := sm3 _ _ hd0
        refine ⟨rfl, tyI ⟨_, rfl, _, rfl, ⟨_, SqL.of hd3⟩, fun D2 hD2 => ?_⟩⟩
        have hD2R : D2 ≠ R := fun z => by rw [z, hR3] at hD2; cases hD2
        refine lc_it walk_list (fun k H' => Same H4 H' ∧ ∃ ws, H' D2 = some (.lst ws) ∧ Paired (RwA H') ws (([false, true].take k).map fun x => r1 [y] (gl false x))) ⟨same_new hD2 _, [], upd_same, .nil⟩ (fun k H' _ z => SqL.of (z.1 _ _ hd3)) ?_ ?_
        · rintro k z H5 H6 hk ⟨sm5, ws, hd5, pw⟩ ⟨rfl, hz⟩
          obtain ⟨g, hg, rfl⟩ := List.getElem?_map_some hz
          have hkl := lt_len hg
          have hlw := paired_len pw
          refine ⟨rfl, tyI ⟨_, rfl, _, rfl, [y], gl false g, rfl, fun H7 v7 s7 a7 => ?_⟩⟩
          have hd7 := s7 _ _ hd5
          refine ⟨_, hd7, ?_, same_at (sm5.trans' s7) hD2, ws ++ [v7], upd_same, ?_⟩
          · rw [List.length_map, List.length_take] at hlw
            exact Nat.lt_of_lt_of_le (show ws.length < 100000 by have : k < 2 := hkl; omega) (by decide)
          · rw [← take_one _ hg]
            exact paired_app (rwA_all ((Tups.of s7).trans (tups_at hd7)) pw) (.cons (a7.keep (tups_at hd7)) .nil)
        · rintro H5 ⟨sm5, ws, hd5, pw⟩
          have pw2 : Paired (RwA H5) ws [r1 [y] (gl false false), r1 [y] (gl false true)] := pw
          have hR5 := sm5 _ _ hR3
          refine ⟨_, hR5, ?_, same_at (sm3.trans' sm5) hR, us ++ [.ref D2], upd_same, ?_⟩
          · rw [List.length_map, List.length_take] at hlu
            exact Nat.lt_of_lt_of_le (show us.length < 100000 by have : i < 2 := hil; omega) (by decide)
          · rw [← take_one _ hy]
            exact paired_app (rowsP_keep (sm5) hR5 pu) (.cons ⟨D2, ws, rfl, hD2R, by rw [upd_ne hD2R]; exact hd5, rwA_all (tups_at hR5) pw2⟩ .nil)
      · rintro H3 ⟨sm3, us, hR3, pu⟩
        exact q _ _ _ ((sm.trans' k0).trans' sm3) hR3 (rowsP_rows pu)
end
end FY


set_option Elab.async false
set_option linter.all false
set_option maxRecDepth 100000
set_option maxHeartbeats 4000000
namespace FY
open PySem L2 FYR
def stOf : Tm → Stn
  | .byy a b c d _ _ => ⟨2, 1, [⟨.both, [r1 [a] 0, r1 [b] 0, r1 [c] 0, r1 [d] 0]⟩]⟩
  | .keep _ _ => ⟨2, 1, [⟨.both, [r1 [] 0, r1 [false] 0, r1 [] 0, r1 [true] 0]⟩]⟩
  | t => wayOf (rowsT t)
theorem two_ok {rs : List Rw} (h : ∀ r ∈ rs, r.ok 1 1) (hl : rs.length = 4) : (⟨2, 1, [⟨.both, rs⟩]⟩ : Stn).ok := by
  refine ⟨(by decide : 1 ≤ 2), Nat.le_refl 2, Nat.le_refl 1, (by decide : 1 ≤ 2), Nat.le_refl 1, (by decide : 1 ≤ 4), fun s hs => ?_⟩
  obtain rfl : s = ⟨.both, rs⟩ := by simpa using hs
  exact ⟨.inr rfl, hl, h⟩
theorem rowsW_ok (w : W1) : wayOk (rowsW w) := by
  cases w <;> refine ⟨by decide, by decide, fun rs hrs => ?_⟩ <;> simp only [rowsW, List.mem_cons, List.not_mem_nil, or_false] at hrs
  all_goals (first | (rcases hrs with rfl | rfl) | (rcases hrs with rfl))
  all_goals refine ⟨rfl, fun r hr => ?_⟩
  all_goals (simp only [List.mem_cons, List.not_mem_nil, or_false] at hr; rcases hr with rfl | rfl <;> exact r1_ok (by simp) (by decide))
theorem rowsL_ok (b : Bool) : wayOk (rowsLate b) := by
  cases b <;> refine ⟨by decide, by decide, fun rs hrs => ?_⟩ <;> simp only [rowsLate, List.mem_cons, List.not_mem_nil, or_false] at hrs
  all_goals rcases hrs with rfl | rfl
  all_goals refine ⟨rfl, fun r hr => ?_⟩
  all_goals (simp only [List.mem_cons, List.not_mem_nil, or_false] at hr; rcases hr with rfl | rfl <;> exact r1_ok (by simp) (by decide))
theorem rows_ok {t : Tm} (h : t.parts.length = 1) : wayOk (rowsT t) := by
  cases t with
  | one w t => exact rowsW_ok w
  | late b t => exact rowsL_ok b
  | _ => cases h
structure Twos (K : PySem.W.Frag) (mg : Str → Option Value) (aT : Addr) : Prop where
  g_TWOS : ∃ u, mg "TWOS" = some u ∧ RelV (.ref aT) u
  k_TWOS : ∀ H, SqT K H aT [.str "00", .str "01", .str "10", .str "11"]
def spStOf (C : Addr) : Sp := fun vs H Q _ => ∃ v t, vs = [v] ∧ TA H v t ∧ t.isIn = false ∧ t.isThn = false ∧ ∀ H' v', Same H H' → StnA C H' v' (stOf t) → Q v' H'
def twos : List (Bool × Bool) := [(false, false), (false, true), (true, false), (true, true)]
theorem z10 : ("10" : Str) = tx [true, false] := by decide +kernel
section
variable {P : Program} {w : World} {K : PySem.W.Frag} {mg : Str → Option Value} {base : Heap} {aS a1 a2 aL aT : Addr} {f : Addr} {fd : FuncData} {C : Addr}
abbrev s_station_of : Stmt := top 61
abbrev N_station_of : List Str := ["term", "sign", "two"]
theorem sc_station_of : FnScope N_station_of ["term"] (defScope s_station_of) := ⟨rfl, rfl, rfl, by decide +kernel, rfl, by decide +kernel, by decide +kernel⟩
theorem ok_station_of (F : Fun K "station_of" "station_of" s_station_of f fd) (T : Txt K mg aS a1 a2) (U : Twos K mg aT) (mk_Station : C8.Mak P w K mg base 6 "Station" C (spStInit C) []) (c_row : C8.Cal P w K mg base 1 "row" spRow []) (c_kept : C8.Cal P w K mg base 1 "kept" spKept []) (c_rows_of : C8.Cal P w K mg base 3 "rows_of" spRowsOf []) (c_one_way : C8.Cal P w K mg base 8 "one_way" (spOneWay C) []) : FnOk P w K mg base CX0 9 f fd ["term"] (spStOf C) := by
  refine F.ok sc_station_of (fun vs H Q E h => ?_) (fun cdv A outer s H vs Q E hr h => ?_)
  · obtain ⟨v, t, rfl, _⟩ := h
    rfl
  obtain ⟨v, t, rfl, ta, hin, hth, q⟩ := h
  refine ⟨_, (pss_cons (ps_if (pt_cmpR op_eq (pe_ix (kIxT K rfl) (pv 0) pe_int (fun _ _ => rfl)) (C8.pe_gc rfl T.g_BY) (nomark _))
        (pss_one (ps_ret (C8.pe_mk mk_Station hr (by decide) rfl (pa_cons pe_int (pa_cons pe_int (pa_cons (pe_lst (pa_cons (pe_tup (pa_cons pe_str (pa_cons (pe_lc (own := [("sign", 1)]) rfl sc_station_of.nd (pi_str (pe_ix (kIxT K rfl) (pv 0) pe_int (fun _ _ => rfl))) (blkOk_by (N := N_station_of) (sc := defScope s_station_of) (by decide +kernel)) (fun _ _ _ _ _ => (pg_name (i := 1) sc_station_of.nd rfl (Or.inl rfl))) (fun _ _ _ _ _ => pts_nil) (fun _ _ _ _ _ => (C8.pe_c c_row hr (by decide) rfl (pa_cons (pv 1) (pa_cons pe_int pa_nil))))) pa_nil))) pa_nil)) pa_nil))))))
        pss_nil)
        (pss_cons (ps_if (pt_cmpR op_eq (pe_ix (kIxT K rfl) (pv 0) pe_int (fun _ _ => rfl)) (C8.pe_gc rfl T.g_KEEP) (nomark _))
        (pss_one (ps_ret (C8.pe_mk mk_Station hr (by decide) rfl (pa_cons pe_int (pa_cons pe_int (pa_cons (pe_lst (pa_cons (pe_tup (pa_cons pe_str (pa_cons (pe_lc (own := [("two", 2)]) rfl sc_station_of.nd (kTup K rfl (C8.pe_gc rfl U.g_TWOS)) (blkOk_by (N := N_station_of) (sc := defScope s_station_of) (by decide +kernel)) (fun _ _ _ _ _ => (pg_name (i := 2) sc_station_of.nd rfl (Or.inl rfl))) (fun _ _ _ _ _ => pts_nil) (fun _ _ _ _ _ => (C8.pe_c c_row hr (by decide) rfl (pa_cons (C8.pe_c c_kept hr (by decide) rfl (pa_cons (pv 2) pa_nil)) (pa_cons pe_int pa_nil))))) pa_nil))) pa_nil)) pa_nil))))))
        pss_nil)
        (pss_one (ps_ret (C8.pe_c c_one_way hr (by decide) rfl (pa_cons (C8.pe_c c_rows_of hr (by decide) rfl (pa_cons (pv 0) pa_nil)) pa_nil)))))), ?_⟩
  cases t with
  | inn => cases hin
  | thn _ _ => cases hth
  | one w t =>
    have ta0 := ta
    obtain ⟨a, x, rfl, h, r⟩ := ta
    refine ⟨_, rfl, _, _, _, _, rfl, rfl, SqT.of h, rfl, rfl, _, rfl, iteFd (by cases w <;> decide +kernel) ?_⟩
    refine ⟨_, rfl, _, _, _, _, rfl, rfl, SqT.of h, rfl, rfl, _, rfl, iteFd (by cases w <;> decide +kernel) ?_⟩
    exact ⟨_, rfl, _, .one w t, rfl, ta0, rfl, fun H1 R us s1 hR pr => ⟨R, us, _, rfl, hR, pr, rows_ok rfl, fun H2 v' s2 st => q _ _ (s1.trans' s2) st⟩⟩
  | late b t =>
    have ta0 := ta
    obtain ⟨a, x, rfl, h, r⟩ := ta
    refine ⟨_, rfl, _, _, _, _, rfl, rfl, SqT.of h, rfl, rfl, _, rfl, iteFd (by decide +kernel) ?_⟩
    refine ⟨_, rfl, _, _, _, _, rfl, rfl, SqT.of h, rfl, rfl, _, rfl, iteFd (by decide +kernel) ?_⟩
    exact ⟨_, rfl, _, .late b t, rfl, ta0, rfl, fun H1 R us s1 hR pr => ⟨R, us, _, rfl, hR, pr, rows_ok rfl, fun H2 v' s2 st => q _ _ (s1.trans' s2) st⟩⟩
  | byy b1 b2 b3 b4 t u =>
    obtain ⟨a, x, y, rfl, h, r⟩ := ta
    refine ⟨_, rfl, _, _, _, _, rfl, rfl, SqT.of h, rfl, rfl, _, rfl, iteTd (by decide +kernel) ?_⟩
    refine ⟨_, rfl, _, _, _, _, rfl, rfl, SqT.of h, rfl, _, rfl, fun D hD => lc_it walk_str (fun i H' => Same H H' ∧ ∃ ws, H' D = some (.lst ws) ∧ Paired (RwA H') ws (([b1, b2, b3, b4].take i).map fun x => r1 [x] 0)) ⟨same_new hD _, [], upd_same, .nil⟩ (fun _ _ _ _ => trivial) ?_ ?_⟩
    · rintro i x H1 H2 hi ⟨sm, ws, hd, pw⟩ ⟨rfl, c, hc, rfl⟩
      obtain ⟨x, hx, rfl⟩ := tx_char hc
      have hil : i < 4 := lt_len hx
      have hlw := paired_len pw
      refine ⟨rfl, tyI ⟨_, rfl, [x], 0, rfl, fun H3 v3 s3 a3 => ?_⟩⟩
      have hd3 := s3 _ _ hd
      refine ⟨_, hd3, ?_, same_at (sm.trans' s3) hD, ws ++ [v3], upd_same, ?_⟩
      · rw [List.length_map, List.length_take] at hlw
        exact Nat.lt_of_lt_of_le (show ws.length < 100000 by omega) (by decide)
      · rw [← take_one _ hx]
        exact paired_app (rwA_all ((Tups.of s3).trans (tups_at hd3)) pw) (.cons (a3.keep (tups_at hd3)) .nil)
    · rintro H1 ⟨sm, ws, hd, pw⟩
      refine ⟨sz rfl, fun T0 hT0 => ⟨sz rfl, fun L hL => ?_⟩⟩
      have k0 := same_new hT0 (.tup [.str "12", .ref D])
      have kL := same_new hL (.lst [.ref T0])
      have pw2 : Paired (RwA H1) ws [r1 [b1] 0, r1 [b2] 0, r1 [b3] 0, r1 [b4] 0] := pw
      refine make_st (t := ⟨2, 1, [⟨.both, [r1 [b1] 0, r1 [b2] 0, r1 [b3] 0, r1 [b4] 0]⟩]⟩) upd_same (.cons ⟨T0, D, ws, rfl, kL _ _ upd_same, kL _ _ (k0 _ _ hd), rwA_all (Tups.of (k0.trans' kL)) pw2⟩ .nil) (two_ok ?_ rfl) fun H' v s st => q _ _ (((sm.trans' k0).trans' kL).trans' s) st
      intro r hr
      simp only [List.mem_cons, List.not_mem_nil, or_false] at hr
      rcases hr with rfl | rfl | rfl | rfl <;> exact r1_ok (by simp) (by decide)
  | keep t u =>
    obtain ⟨a, x, y, rfl, h, r⟩ := ta
    refine ⟨_, rfl, _, _, _, _, rfl, rfl, SqT.of h, rfl, rfl, _, rfl, iteFd (by decide +kernel) ?_⟩
    refine ⟨_, rfl, _, _, _, _, rfl, rfl, SqT.of h, rfl, rfl, _, rfl, iteTd (by decide +kernel) ?_⟩
    have hk : [V.str "00", V.str "01", V.str "10", V.str "11"] = twos.map fun p => V.str (tx [p.1, p.2]) := by rw [z00, z01, z10, z11]; rfl
    have hT : ∀ H, SqT K H aT (twos.map fun p => V.str (tx [p.1, p.2])) := fun H => by rw [← hk]; exact U.k_TWOS H
    refine ⟨_, rfl, ⟨_, hT _⟩, fun D hD => lc_it walk_tup (fun i H' => Same H H' ∧ ∃ ws, H' D = some (.lst ws) ∧ Paired (RwA H') ws ((twos.take i).map fun p => r1 (if p.2 then [p.1] else []) 0)) ⟨same_new hD _, [], upd_same, .nil⟩ (fun i H' _ z => hT _) ?_ ?_⟩
    · rintro i x H1 H2 hi ⟨sm, ws, hd, pw⟩ ⟨rfl, hx⟩
      obtain ⟨⟨y1, y2⟩, hy, rfl⟩ := List.getElem?_map_some hx
      have hil : i < 4 := lt_len hy
      have hlw := paired_len pw
      refine ⟨rfl, tyI ⟨_, rfl, y1, y2, rfl, (if y2 then [y1] else []), 0, rfl, fun H3 v3 s3 a3 => ?_⟩⟩
      have hd3 := s3 _ _ hd
      refine ⟨_, hd3, ?_, same_at (sm.trans' s3) hD, ws ++ [v3], upd_same, ?_⟩
      · rw [List.length_map, List.length_take] at hlw
        exact Nat.lt_of_lt_of_le (show ws.length < 100000 by omega) (by decide)
      · rw [← take_one _ hy]
        exact paired_app (rwA_all ((Tups.of s3).trans (tups_at hd3)) pw) (.cons (a3.keep (tups_at hd3)) .nil)
    · rintro H1 ⟨sm, ws, hd, pw⟩
      refine ⟨sz rfl, fun T0 hT0 => ⟨sz rfl, fun L hL => ?_⟩⟩
      have k0 := same_new hT0 (.tup [.str "12", .ref D])
      have kL := same_new hL (.lst [.ref T0])
      have pw2 : Paired (RwA H1) ws [r1 [] 0, r1 [false] 0, r1 [] 0, r1 [true] 0] := pw
      refine make_st (t := ⟨2, 1, [⟨.both, [r1 [] 0, r1 [false] 0, r1 [] 0, r1 [true] 0]⟩]⟩) upd_same (.cons ⟨T0, D, ws, rfl, kL _ _ upd_same, kL _ _ (k0 _ _ hd), rwA_all (Tups.of (k0.trans' kL)) pw2⟩ .nil) (two_ok ?_ rfl) fun H' v s st => q _ _ (((sm.trans' k0).trans' kL).trans' s) st
      intro r hr
      simp only [List.mem_cons, List.not_mem_nil, or_false] at hr
      rcases hr with rfl | rfl | rfl | rfl <;> exact r1_ok (by simp) (by decide)
end
end FY


set_option Elab.async false
set_option linter.all false
set_option maxRecDepth 100000
set_option maxHeartbeats 4000000
namespace FY
open PySem L2 FYR
def outerN : Tm → Nat
  | .inn => 1
  | .one _ t => outerN t
  | .late _ t => outerN t
  | .byy _ _ _ _ t u => outerN t + outerN u
  | .keep t u => outerN t + outerN u
  | .thn t _ => outerN t
def sumO : List Tm → Nat
  | [] => 0
  | t :: r => outerN t + sumO r
theorem sum_outer : ∀ ts : List Tm, (ts.map fun t => (outerN t : Int)).sum = sumO ts
  | [] => rfl
  | t :: r => by simp [sumO, sum_outer r]
theorem outer_parts {t : Tm} (h : t.isIn = false) (h2 : t.isThn = false) : sumO t.parts = outerN t := by
  cases t with
  | inn => cases h
  | thn _ _ => cases h2
  | _ => simp [Tm.parts, sumO, outerN]
def spOuter (n : Nat) : Sp := fun vs H Q _ => ∃ v t, vs = [v] ∧ TA H v t ∧ t.nodes ≤ n ∧ t.nodes ≤ 40 ∧ ∀ H', Same H H' → Q (.int (outerN t)) H'
def spStFor (C : Addr) : Sp := fun vs H Q _ => ∃ v t, vs = [v] ∧ TA H v t ∧ t.isIn = false ∧ t.isThn = false ∧ t.nodes ≤ 9 ∧ ∀ H' v', Same H H' → StnA C H' v' (stOf t) → Q v' H'
def spIns (C : Addr) : Sp := fun vs H Q _ => ∃ v t, vs = [v] ∧ StnA C H v t ∧ Q (.int t.ins) H
def spOuts (C : Addr) : Sp := fun vs H Q _ => ∃ v t, vs = [v] ∧ StnA C H v t ∧ Q (.int t.outs) H
section
variable {P : Program} {w : World} {K : PySem.W.Frag} {mg : Str → Option Value} {base : Heap} {aS a1 a2 aL aT : Addr} {f : Addr} {fd : FuncData} {C : Addr}
abbrev s_outer_ins : Stmt := top 63
abbrev N_outer_ins : List Str := ["term", "parts", "part"]
theorem sc_outer_ins : FnScope N_outer_ins ["term"] (defScope s_outer_ins) := ⟨rfl, rfl, rfl, by decide +kernel, rfl, by decide +kernel, by decide +kernel⟩
theorem step_outer_ins {n : Nat} (F : Fun K "outer_ins" "outer_ins" s_outer_ins f fd) (T : Txt K mg aS a1 a2) (c_parts_of : C8.Cal P w K mg base 1 "parts_of" spPartsOf []) (c_outer_ins : C8.Cal P w K mg base (n + 1) "outer_ins" (spOuter n) []) : FnOk P w K mg base CX0 (n + 2) f fd ["term"] (spOuter (n + 1)) := by
  refine F.ok sc_outer_ins (fun vs H Q E h => ?_) (fun cdv A outer s H vs Q E hr h => ?_)
  · obtain ⟨b, t, rfl, _⟩ := h
    rfl
  obtain ⟨v, t, rfl, ta, hn, h9, q⟩ := h
  refine ⟨_, (pss_cons (ps_if (pt_cmpR (kEqD K rfl hr.units) (pv 0) (C8.pe_gc rfl T.g_IN) (nomark _))
        (pss_one (ps_ret pe_int))
        pss_nil)
        (pss_cons (ps_set (i := 1) sc_outer_ins.nd rfl (Or.inl rfl) (C8.pe_c c_parts_of hr (by omega) rfl (pa_cons (pv 0) pa_nil)))
        (pss_one (ps_ret (pe_ifExp (pt_cmpR op_eq (pe_ix (kIxT K rfl) (pv 0) pe_int (fun _ _ => rfl)) (C8.pe_gc rfl T.g_THEN) (nomark _)) (C8.pe_c c_outer_ins hr (by omega) rfl (pa_cons (pe_ix (kIxT K rfl) (pv 1) pe_int (fun _ _ => rfl)) pa_nil)) (pe_callB (kSum K rfl rfl) rfl T.b_sum bt_sum (pa_cons (pe_lc (own := [("part", 2)]) rfl sc_outer_ins.nd (kTup K rfl (pv 1)) (blkOk_by (N := N_outer_ins) (sc := defScope s_outer_ins) (by decide +kernel)) (fun _ _ _ _ _ => (pg_name (i := 2) sc_outer_ins.nd rfl (Or.inl rfl))) (fun _ _ _ _ _ => pts_nil) (fun _ _ _ _ _ => (C8.pe_c c_outer_ins hr (by omega) rfl (pa_cons (pv 2) pa_nil)))) pa_nil))))))), ?_⟩
  refine ⟨_, rfl, _, _, ta.dp, .str _, shp_tm h9, shp_in, _, rfl, ?_⟩
  rw [eqv_in]
  cases hin : t.isIn with
  | true =>
    have e : t = .inn := by cases t <;> first | rfl | cases hin
    subst e
    exact iteT (q _ (Same.refl _))
  | false =>
    refine iteF ?_
    have hf := parts_few t
    refine ⟨_, rfl, v, t, rfl, ta, Nat.le_trans t.dep_le (by omega), fun H1 p ws s1 hp1 pr1 => ?_⟩
    have hwl := paired_len pr1
    obtain ⟨a, us, rfl, ha, _⟩ := (ta.keep (Tups.of s1)).node hin
    refine ⟨_, rfl, _, _, _, _, rfl, rfl, SqT.of ha, at0, rfl, _, rfl, ?_⟩
    rw [word_then]
    cases hth : t.isThn with
    | true =>
      refine iteT ?_
      cases t with
      | thn t u =>
        cases pr1 with
        | @cons x1 _ _ _ r1 q1 =>
        cases q1 with
        | @cons x2 _ _ _ r2 q2 =>
        cases q2 with
        | nil =>
        have hnd : (Tm.thn t u).nodes = t.nodes + u.nodes + 1 := rfl
        exact ⟨_, rfl, _, _, _, _, rfl, rfl, SqT.of hp1, rfl, x1, t, rfl, r1, by omega, by omega, fun H2 s2 => q _ (s1.trans' s2)⟩
      | _ => cases hth
    | false =>
      refine iteF ⟨_, rfl, _, rfl, ⟨_, SqT.of hp1⟩, fun D hD => lc_it walk_tup (fun i H' => Same H1 H' ∧ H' D = some (.lst (((t.parts.take i).map fun u => (outerN u : Int)).map V.int))) ⟨same_new hD _, upd_same⟩ (fun i H' _ z => SqT.of (z.1 _ _ hp1)) ?_ ?_⟩
      · rintro i x H3 H4 hi ⟨sm3, hd3⟩ ⟨rfl, hx⟩
        obtain ⟨u, hu, hxu⟩ := paired_get pr1 hx
        have hun := parts_nodes (List.mem_of_getElem? hu)
        have hil := lt_len hu
        refine ⟨rfl, tyI ⟨_, rfl, x, u, rfl, hxu.keep (Tups.of sm3), by omega, by omega, fun H5 s5 => ?_⟩⟩
        refine ⟨_, s5 _ _ hd3, ?_, same_at (sm3.trans' s5) hD, ?_⟩
        · rw [List.length_map]
          exact take_len_le _ _ _ (by omega)
        · rw [upd_same, ← take_one _ hu]
          simp
      · rintro H3 ⟨sm3, hd3⟩
        rw [hwl, List.take_of_length_le (Nat.le_refl _)] at hd3
        refine ⟨_, _, rfl, SqL.of hd3, ?_⟩
        rw [sum_outer, outer_parts hin hth]
        exact q _ (s1.trans' sm3)
theorem ok_outer_ins (F : Fun K "outer_ins" "outer_ins" s_outer_ins f fd) (T : Txt K mg aS a1 a2) (hm : mg "outer_ins" = some (.ref f)) (hk : PySem.W.keepIn K (.ref f) = true) (hb : Binds K fd ["term"] []) (c_parts_of : C8.Cal P w K mg base 1 "parts_of" spPartsOf []) : ∀ n, C8.Cal P w K mg base (n + 1) "outer_ins" (spOuter n) []
  | 0 => ⟨f, fd, _, [], ⟨by rintro vs H Q E ⟨b, t, rfl, _⟩; rfl, by
      rintro A outer s H args us vs Q E hr e0 hb r ⟨b, t, rfl, _, hn, _⟩
      have := t.nodes_pos
      omega⟩, hm, hk, hb, .nil⟩
  | n + 1 => ⟨f, fd, _, [], step_outer_ins F T c_parts_of (ok_outer_ins F T hm hk hb c_parts_of n), hm, hk, hb, .nil⟩
abbrev s_station_for : Stmt := top 62
abbrev N_station_for : List Str := ["term"]
theorem sc_station_for : FnScope N_station_for ["term"] (defScope s_station_for) := ⟨rfl, rfl, rfl, by decide +kernel, rfl, by decide +kernel, by decide +kernel⟩
theorem ok_station_for (F : Fun K "station_for" "station_for" s_station_for f fd) (T : Txt K mg aS a1 a2) (c_is_term : C8.Cal P w K mg base 3 "is_term" spIsTerm []) (c_station_of : C8.Cal P w K mg base 9 "station_of" (spStOf C) []) : FnOk P w K mg base CX0 10 f fd ["term"] (spStFor C) := by
  refine F.ok sc_station_for (fun vs H Q E h => ?_) (fun cdv A outer s H vs Q E hr h => ?_)
  · obtain ⟨b, t, rfl, _⟩ := h
    rfl
  obtain ⟨v, t, rfl, ta, hin, hth, h9, q⟩ := h
  refine ⟨_, (pss_cons (ps_if (PW.pt (pw_or (pt_not (pt_val (C8.pe_c c_is_term hr (by decide) rfl (pa_cons (pv 0) pa_nil)))) (pw_or (pt_cmpR (kEqD K rfl hr.units) (pv 0) (C8.pe_gc rfl T.g_IN) (nomark _)) (pw_or1 (pt_cmpR op_eq (pe_ix (kIxT K rfl) (pv 0) pe_int (fun _ _ => rfl)) (C8.pe_gc rfl T.g_THEN) (nomark _))))))
        (pss_one ps_never)
        pss_nil)
        (pss_one (ps_ret (C8.pe_c c_station_of hr (by decide) rfl (pa_cons (pv 0) pa_nil))))), ?_⟩
  refine ⟨_, rfl, v, t, rfl, ta, by omega, fun H1 s1 => ⟨_, rfl, ?_⟩⟩
  rw [decide_eq_true h9]
  have t1 := ta.keep (Tups.of s1)
  refine iteF ⟨_, rfl, _, _, t1.dp, .str _, shp_tm (by omega), shp_in, _, rfl, iteFd (by rw [eqv_in, hin]) ?_⟩
  obtain ⟨a, us, rfl, ha, _⟩ := t1.node hin
  refine ⟨_, rfl, _, _, _, _, rfl, rfl, SqT.of ha, at0, rfl, _, rfl, iteFd (by rw [word_then, hth]) ?_⟩
  exact ⟨_, rfl, _, t, rfl, t1, hin, hth, fun H2 v' s2 st => q _ _ (s1.trans' s2) st⟩
abbrev s_Station_ins : Stmt := inClass (top 33) 1
abbrev N_Station_ins : List Str := ["self"]
theorem sc_Station_ins : FnScope N_Station_ins ["self"] (defScope s_Station_ins) := ⟨rfl, rfl, rfl, by decide +kernel, rfl, by decide +kernel, by decide +kernel⟩
theorem ok_Station_ins (F : Fun K "ins" "Station.ins" s_Station_ins f fd) (S : StC K mg C) : FnOk P w K mg base CX0 1 f fd ["self"] (spIns C) := by
  refine F.ok sc_Station_ins (fun vs H Q E h => ?_) (fun cdv A outer s H vs Q E hr h => ?_)
  · obtain ⟨b, t, rfl, _⟩ := h
    rfl
  obtain ⟨v, t, rfl, ⟨a, dx, p, ps, rfl, ha, hp, pr⟩, q⟩ := h
  refine ⟨_, (pss_one (ps_ret (kFld K rfl (pv 0)))), ?_⟩
  exact ⟨_, rfl, a, C, dx, _, _, rfl, ha, S.cl, S.nI, rfl, q⟩
abbrev s_Station_outs : Stmt := inClass (top 33) 2
abbrev N_Station_outs : List Str := ["self"]
theorem sc_Station_outs : FnScope N_Station_outs ["self"] (defScope s_Station_outs) := ⟨rfl, rfl, rfl, by decide +kernel, rfl, by decide +kernel, by decide +kernel⟩
theorem ok_Station_outs (F : Fun K "outs" "Station.outs" s_Station_outs f fd) (S : StC K mg C) : FnOk P w K mg base CX0 1 f fd ["self"] (spOuts C) := by
  refine F.ok sc_Station_outs (fun vs H Q E h => ?_) (fun cdv A outer s H vs Q E hr h => ?_)
  · obtain ⟨b, t, rfl, _⟩ := h
    rfl
  obtain ⟨v, t, rfl, ⟨a, dx, p, ps, rfl, ha, hp, pr⟩, q⟩ := h
  refine ⟨_, (pss_one (ps_ret (kFld K rfl (pv 0)))), ?_⟩
  exact ⟨_, rfl, a, C, dx, _, _, rfl, ha, S.cl, S.nO, rfl, q⟩
end
end FY


set_option Elab.async false
set_option linter.all false
set_option maxRecDepth 100000
set_option maxHeartbeats 4000000
namespace FY
open PySem L2 FYR
theorem oIw (w : W1) : (if false = true then !inV (.str w.s) [.str "by", .str "keep"] else inV (.str w.s) [.str "by", .str "keep"]) = false := by cases w <;> decide +kernel
theorem oIl : (if false = true then !inV (.str "late") [.str "by", .str "keep"] else inV (.str "late") [.str "by", .str "keep"]) = false := by decide +kernel
theorem oIt : (if false = true then !inV (.str "then") [.str "by", .str "keep"] else inV (.str "then") [.str "by", .str "keep"]) = false := by decide +kernel
theorem oIb : (if false = true then !inV (.str "by") [.str "by", .str "keep"] else inV (.str "by") [.str "by", .str "keep"]) = true := by decide +kernel
theorem oIk : (if false = true then !inV (.str "keep") [.str "by", .str "keep"] else inV (.str "keep") [.str "by", .str "keep"]) = true := by decide +kernel
section
variable {P : Program} {w : World} {K : PySem.W.Frag} {mg : Str → Option Value} {base : Heap} {aS a1 a2 aL aT : Addr} {f : Addr} {fd : FuncData} {C : Addr}
abbrev s_law_outer : Stmt := top 72
abbrev N_law_outer : List Str := ["_law_term_here"]
theorem sc_law_outer : FnScope N_law_outer ["_law_term_here"] (defScope s_law_outer) := ⟨rfl, rfl, rfl, by decide +kernel, rfl, by decide +kernel, by decide +kernel⟩
theorem step_law_outer {n : Nat} (F : Fun K "_law_outer" "_law_outer" s_law_outer f fd) (T : Txt K mg aS a1 a2) (c__law_outer : C8.Cal P w K mg base n "_law_outer" (spOuter n) []) : FnOk P w K mg base CX0 (n + 1) f fd ["_law_term_here"] (spOuter (n + 1)) := by
  refine F.ok sc_law_outer (fun vs H Q E h => ?_) (fun cdv A outer s H vs Q E hr h => ?_)
  · obtain ⟨b, t, rfl, _⟩ := h
    rfl
  obtain ⟨v, t, rfl, ta, hn, h9, q⟩ := h
  refine ⟨_, (pss_cons (ps_if (pt_cmpR (kEqD K rfl hr.units) (pv 0) pe_str (nomark _))
        (pss_one (ps_ret pe_int))
        pss_nil)
        (pss_cons (ps_if (pt_cmpR (kIn K rfl) (pe_ix (kIxT K rfl) (pv 0) pe_int (fun _ _ => rfl)) (pe_tup (pa_cons pe_str (pa_cons pe_str pa_nil))) rfl)
        (pss_one (ps_ret (pe_op op_add (C8.pe_c c__law_outer hr (by omega) rfl (pa_cons (pe_ix (kIxT K rfl) (pv 0) (pe_un un_neg pe_int) (fun _ _ => rfl)) pa_nil)) (C8.pe_c c__law_outer hr (by omega) rfl (pa_cons (pe_ix (kIxT K rfl) (pv 0) (pe_un un_neg pe_int) (fun _ _ => rfl)) pa_nil)))))
        pss_nil)
        (pss_one (ps_ret (C8.pe_c c__law_outer hr (by omega) rfl (pa_cons (pe_ifExp (pt_cmpR op_eq (pe_ix (kIxT K rfl) (pv 0) pe_int (fun _ _ => rfl)) pe_str (nomark _)) (pe_ix (kIxT K rfl) (pv 0) pe_int (fun _ _ => rfl)) (pe_ix (kIxT K rfl) (pv 0) (pe_un un_neg pe_int) (fun _ _ => rfl))) pa_nil)))))), ?_⟩
  refine ⟨_, rfl, _, _, ta.dp, .str _, shp_tm h9, shp_in, _, rfl, ?_⟩
  rw [eqv_in]
  cases t with
  | inn => exact iteT (q _ (Same.refl _))
  | thn t u =>
    obtain ⟨a, x, y, rfl, h, r, r'⟩ := ta
    have hnd : (Tm.thn t u).nodes = t.nodes + u.nodes + 1 := rfl
    have := t.nodes_pos
    have := u.nodes_pos
    refine iteF ?_
    refine ⟨_, rfl, _, _, _, _, rfl, rfl, SqT.of h, rfl, sz rfl, fun p0 hp0 => ⟨_, _, rfl, .inr (SqT.of upd_same), rfl, rfl, _, rfl, iteFd oIt ?_⟩⟩
    have k0 := same_new hp0 (.tup [.str "by", .str "keep"])
    have h0 := k0 _ _ h
    refine ⟨_, rfl, _, _, _, _, rfl, rfl, SqT.of h0, rfl, rfl, _, rfl, iteTd (by decide +kernel) ?_⟩
    exact ⟨_, rfl, _, _, _, _, rfl, rfl, SqT.of h0, rfl, _, t, rfl, r.keep (Tups.of k0), by omega, by omega, fun H2 s2 => q _ (k0.trans' s2)⟩
  | one w t =>
    obtain ⟨a, x, rfl, h, r⟩ := ta
    have hnd : (Tm.one w t).nodes = t.nodes + 1 := rfl
    refine iteF ?_
    refine ⟨_, rfl, _, _, _, _, rfl, rfl, SqT.of h, rfl, sz rfl, fun p0 hp0 => ⟨_, _, rfl, .inr (SqT.of upd_same), rfl, rfl, _, rfl, iteFd (oIw w) ?_⟩⟩
    have k0 := same_new hp0 (.tup [.str "by", .str "keep"])
    have h0 := k0 _ _ h
    refine ⟨_, rfl, _, _, _, _, rfl, rfl, SqT.of h0, rfl, rfl, _, rfl, iteFd (by cases w <;> decide +kernel) ?_⟩
    exact ⟨_, rfl, _, rfl, _, _, _, _, rfl, rfl, SqT.of h0, rfl, _, t, rfl, r.keep (Tups.of k0), by omega, by omega, fun H2 s2 => q _ (k0.trans' s2)⟩
  | late b t =>
    obtain ⟨a, x, rfl, h, r⟩ := ta
    have hnd : (Tm.late b t).nodes = t.nodes + 1 := rfl
    refine iteF ?_
    refine ⟨_, rfl, _, _, _, _, rfl, rfl, SqT.of h, rfl, sz rfl, fun p0 hp0 => ⟨_, _, rfl, .inr (SqT.of upd_same), rfl, rfl, _, rfl, iteFd oIl ?_⟩⟩
    have k0 := same_new hp0 (.tup [.str "by", .str "keep"])
    have h0 := k0 _ _ h
    refine ⟨_, rfl, _, _, _, _, rfl, rfl, SqT.of h0, rfl, rfl, _, rfl, iteFd (by decide +kernel) ?_⟩
    exact ⟨_, rfl, _, rfl, _, _, _, _, rfl, rfl, SqT.of h0, rfl, _, t, rfl, r.keep (Tups.of k0), by omega, by omega, fun H2 s2 => q _ (k0.trans' s2)⟩
  | byy b1 b2 b3 b4 t u =>
    obtain ⟨a, x, y, rfl, h, r, r'⟩ := ta
    have hnd : (Tm.byy b1 b2 b3 b4 t u).nodes = t.nodes + u.nodes + 1 := rfl
    have := t.nodes_pos
    have := u.nodes_pos
    refine iteF ?_
    refine ⟨_, rfl, _, _, _, _, rfl, rfl, SqT.of h, rfl, sz rfl, fun p0 hp0 => ⟨_, _, rfl, .inr (SqT.of upd_same), rfl, rfl, _, rfl, iteTd oIb ?_⟩⟩
    have k0 := same_new hp0 (.tup [.str "by", .str "keep"])
    have h0 := k0 _ _ h
    refine ⟨_, rfl, _, rfl, _, _, _, _, rfl, rfl, SqT.of h0, rfl, _, t, rfl, r.keep (Tups.of k0), by omega, by omega, fun H2 s2 => ?_⟩
    refine ⟨_, rfl, _, rfl, _, _, _, _, rfl, rfl, SqT.of (s2 _ _ h0), rfl, _, u, rfl, r'.keep (Tups.of (k0.trans' s2)), by omega, by omega, fun H3 s3 => ⟨_, _, rfl, rfl, ?_⟩⟩
    exact q _ ((k0.trans' s2).trans' s3)
  | keep t u =>
    obtain ⟨a, x, y, rfl, h, r, r'⟩ := ta
    have hnd : (Tm.keep t u).nodes = t.nodes + u.nodes + 1 := rfl
    have := t.nodes_pos
    have := u.nodes_pos
    refine iteF ?_
    refine ⟨_, rfl, _, _, _, _, rfl, rfl, SqT.of h, rfl, sz rfl, fun p0 hp0 => ⟨_, _, rfl, .inr (SqT.of upd_same), rfl, rfl, _, rfl, iteTd oIk ?_⟩⟩
    have k0 := same_new hp0 (.tup [.str "by", .str "keep"])
    have h0 := k0 _ _ h
    refine ⟨_, rfl, _, rfl, _, _, _, _, rfl, rfl, SqT.of h0, rfl, _, t, rfl, r.keep (Tups.of k0), by omega, by omega, fun H2 s2 => ?_⟩
    refine ⟨_, rfl, _, rfl, _, _, _, _, rfl, rfl, SqT.of (s2 _ _ h0), rfl, _, u, rfl, r'.keep (Tups.of (k0.trans' s2)), by omega, by omega, fun H3 s3 => ⟨_, _, rfl, rfl, ?_⟩⟩
    exact q _ ((k0.trans' s2).trans' s3)
theorem ok_law_outer (F : Fun K "_law_outer" "_law_outer" s_law_outer f fd) (T : Txt K mg aS a1 a2) (hm : mg "_law_outer" = some (.ref f)) (hk : PySem.W.keepIn K (.ref f) = true) (hb : Binds K fd ["_law_term_here"] []) : ∀ n, C8.Cal P w K mg base n "_law_outer" (spOuter n) []
  | 0 => ⟨f, fd, _, [], ⟨by rintro vs H Q E ⟨b, t, rfl, _⟩; rfl, by
      rintro A outer s H args us vs Q E hr e0 hb r ⟨b, t, rfl, _, hn, _⟩
      have := t.nodes_pos
      omega⟩, hm, hk, hb, .nil⟩
  | n + 1 => ⟨f, fd, _, [], step_law_outer F T (ok_law_outer F T hm hk hb n), hm, hk, hb, .nil⟩
end
end FY


set_option Elab.async false
set_option linter.all false
set_option maxRecDepth 100000
set_option maxHeartbeats 4000000
namespace FY
open PySem L2 FYR
theorem kStar {X : Cx} (K : PySem.W.Frag) (hK : X.K = K) {e : Expr} {es : List Expr} {p : Pos} {te : TE} {t : L2.TA} (he : PE X e te) (hr : PA X es t) (hs : starEach (.Starred e p :: es) X.env = (true, eval e X.env) :: starEach es X.env := by rfl) : PA X (.Starred e p :: es) (StX.tStar K te t) := by subst hK; exact StX.pa_star he hr hs
abbrev Pipe := Nat × Nat × Nat × Nat
def PipeA (H : Hp) (v : V) (p : Pipe) : Prop := ∃ t, v = .ref t ∧ H t = some (.tup [.int p.1, .int p.2.1, .int p.2.2.1, .int p.2.2.2])
abbrev Ln := Option (Nat × Nat)
def LnA (H : Hp) (v : V) : Ln → Prop
  | none => v = .non
  | some l => ∃ t, v = .ref t ∧ H t = some (.tup [.int l.1, .int l.2])
def pipesOf (n : Nat) : Nat → List Ln → List Pipe
  | _, [] => []
  | p, none :: r => pipesOf n (p + 1) r
  | p, some l :: r => (l.1, l.2, n, p) :: pipesOf n (p + 1) r
theorem pipesOf_app (n : Nat) : ∀ (p : Nat) (a b : List Ln), pipesOf n p (a ++ b) = pipesOf n p a ++ pipesOf n (p + a.length) b
  | p, [], b => by simp [pipesOf]
  | p, none :: r, b => by simp [pipesOf, pipesOf_app n (p + 1) r b]; congr 1; omega
  | p, some l :: r, b => by simp [pipesOf, pipesOf_app n (p + 1) r b]; congr 1; omega
theorem StnA.but2 {C : Addr} {H H' : Hp} (k : ∀ b o, (∀ xs, o ≠ .lst xs) → H b = some o → H' b = some o) {v : V} {t : Stn} (h : StnA C H v t) : StnA C H' v t := by
  obtain ⟨a, dx, p, ps, e, h1, h2, pr⟩ := h
  exact ⟨a, dx, p, ps, e, k _ _ (fun xs z => nomatch z) h1, k _ _ (fun xs z => nomatch z) h2, sgA_all (fun b xs e => k b _ (fun xs z => nomatch z) e) pr⟩
/-- all but lists stay -/
def NL (H H' : Hp) : Prop := ∀ b o, (∀ xs, o ≠ .lst xs) → H b = some o → H' b = some o
theorem NL.of {H H' : Hp} (s : Same H H') : NL H H' := fun b o _ e => s b o e
theorem NL.trans {H H1 H2 : Hp} (a : NL H H1) (b : NL H1 H2) : NL H H2 := fun x o n e => b x o n (a x o n e)
theorem NL.tups {H H' : Hp} (a : NL H H') : Tups H H' := fun b xs e => a b _ (fun ys z => nomatch z) e
theorem NL.at {H : Hp} {L : Addr} {xs : List V} {o : HO} (h : H L = some (.lst xs)) : NL H (upd H L o) := fun b u n e => by
  rw [upd_ne (fun z => by rw [z, h] at e; exact n xs (Option.some.inj e).symm)]
  exact e
theorem stn_all {C : Addr} {H H' : Hp} (k : NL H H') : ∀ {vs : List V} {ts : List Stn}, Paired (StnA C H) vs ts → Paired (StnA C H') vs ts
  | _, _, .nil => .nil
  | _, _, .cons r q => .cons (r.but2 k) (stn_all k q)
theorem pipe_all {H H' : Hp} (k : Tups H H') : ∀ {vs : List V} {ts : List Pipe}, Paired (PipeA H) vs ts → Paired (PipeA H') vs ts
  | _, _, .nil => .nil
  | _, _, .cons ⟨t, e, h⟩ q => .cons ⟨t, e, k _ _ h⟩ (pipe_all k q)
theorem LnA.keep {H H' : Hp} (k : Tups H H') {v : V} : ∀ {l : Ln}, LnA H v l → LnA H' v l
  | none, h => h
  | some _, ⟨t, e, h⟩ => ⟨t, e, k _ _ h⟩
def dflds (S Pp : Addr) : List (Str × V) := [("own_stations", .ref S), ("own_pipes", .ref Pp)]
structure DrA (CD C : Addr) (H : Hp) (d S Pp : Addr) (ts : List Stn) (ps : List Pipe) : Prop where
  ob : ∃ dx, H d = some (.ins CD dx (dflds S Pp))
  st : ∃ vs, H S = some (.lst vs) ∧ Paired (StnA C H) vs ts
  pp : ∃ ws, H Pp = some (.lst ws) ∧ Paired (PipeA H) ws ps
  ne : S ≠ Pp
structure DrC (K : PySem.W.Frag) (mg : Str → Option Value) (CD : Addr) : Prop where
  cl : Cls K CD
  nS : NoAttr K CD "own_stations"
  nP : NoAttr K CD "own_pipes"
theorem pfD (x y : V) : putF "own_pipes" y [("own_stations", x)] = ([("own_stations", x), ("own_pipes", y)] : List (Str × V)) := by
  show (if ("own_stations" : Str) = "own_pipes" then _ else _) = _
  rw [if_neg (by decide +kernel)]
  rfl
def spDrInit (CD C : Addr) : Sp := fun vs H Q _ => ∃ d dx, vs = [.ref d] ∧ H d = some (.ins CD dx []) ∧ ∀ H' S Pp, (∀ b o, b ≠ d → H b = some o → H' b = some o) → H S = none → H Pp = none → DrA CD C H' d S Pp [] [] → Q .non H'
def spAdd (CD C : Addr) : Sp := fun vs H Q _ => ∃ (d S Pp Ll : Addr) (v : V) (t : Stn) (ts : List Stn) (ps : List Pipe) (lv : List V) (ls : List Ln), vs = [.ref d, v, .ref Ll] ∧ DrA CD C H d S Pp ts ps ∧ StnA C H v t ∧ H Ll = some (.lst lv) ∧ Paired (LnA H) lv ls ∧ Ll ≠ S ∧ Ll ≠ Pp ∧ ts.length ≤ 1000 ∧ ps.length ≤ 1000 ∧ ls.length ≤ 1000 ∧
  ∀ H', (∀ b o, b ≠ S → b ≠ Pp → H b = some o → H' b = some o) → DrA CD C H' d S Pp (ts ++ [t]) (ps ++ pipesOf ts.length 0 ls) → Q (.int ts.length) H'
section
variable {P : Program} {w : World} {K : PySem.W.Frag} {mg : Str → Option Value} {base : Heap} {aS a1 a2 aL aT : Addr} {f : Addr} {fd : FuncData} {C CD : Addr}
abbrev s_Draft___init__ : Stmt := inClass (top 64) 0
abbrev N_Draft___init__ : List Str := ["self"]
theorem sc_Draft___init__ : FnScope N_Draft___init__ ["self"] (defScope s_Draft___init__) := ⟨rfl, rfl, rfl, by decide +kernel, rfl, by decide +kernel, by decide +kernel⟩
theorem ok_Draft_init (F : Fun K "__init__" "Draft.__init__" s_Draft___init__ f fd) (D : DrC K mg CD) : FnOk P w K mg base CX0 1 f fd ["self"] (spDrInit CD C) := by
  refine F.ok sc_Draft___init__ (fun vs H Q E h => ?_) (fun cdv A outer s H vs Q E hr h => ?_)
  · obtain ⟨d, dx, rfl, _⟩ := h
    rfl
  obtain ⟨d, dx, rfl, hd, q⟩ := h
  refine ⟨_, (pss_cons (kSetF K rfl (pv 0) (pe_lst pa_nil))
        (pss_one (kSetF K rfl (pv 0) (pe_lst pa_nil)))), ?_⟩
  refine ⟨Nat.zero_le _, fun S hS => ?_⟩
  have n1 : d ≠ S := ne_of_none hd hS
  refine ⟨_, rfl, d, CD, dx, [], rfl, (upd_ne n1).trans hd, D.cl, D.nS, by decide, ?_⟩
  refine ⟨Nat.zero_le _, fun Pp hPp => ?_⟩
  have n2 : d ≠ Pp := fun z => by rw [← z, upd_same] at hPp; cases hPp
  have n3 : S ≠ Pp := fun z => by rw [← z, upd_ne (Ne.symm n1), upd_same] at hPp; cases hPp
  have hP0 : H Pp = none := by rw [upd_ne (Ne.symm n2), upd_ne (Ne.symm n3)] at hPp; exact hPp
  refine ⟨_, rfl, d, CD, dx, [("own_stations", .ref S)], rfl, (upd_ne n2).trans upd_same, D.cl, D.nP, Nat.lt_of_lt_of_le (Nat.lt_succ_self 1) (by decide : 2 ≤ 1000), ?_⟩
  rw [pfD]
  refine q _ S Pp (fun b o hb e => ?_) hS hP0 ⟨⟨dx, upd_same⟩, ⟨[], ?_, .nil⟩, ⟨[], ?_, .nil⟩, n3⟩
  · rw [upd_ne hb, upd_ne (ne_of_none e hP0), upd_ne hb, upd_ne (ne_of_none e hS)]
    exact e
  · rw [upd_ne (Ne.symm n1), upd_ne n3, upd_ne (Ne.symm n1), upd_same]
  · rw [upd_ne (Ne.symm n2), upd_same]
end
end FY


set_option Elab.async false
set_option linter.all false
set_option maxRecDepth 100000
set_option maxHeartbeats 4000000
namespace FY
open PySem L2 FYR
theorem lkS (S Pp : Addr) : (dflds S Pp).lookup ("own_stations" : Str) = some (.ref S) := rfl
theorem lkP (S Pp : Addr) : (dflds S Pp).lookup ("own_pipes" : Str) = some (.ref Pp) := rfl
section
variable {P : Program} {w : World} {K : PySem.W.Frag} {mg : Str → Option Value} {base : Heap} {aS a1 a2 aL aT : Addr} {f : Addr} {fd : FuncData} {C CD : Addr}
abbrev s_Draft_add : Stmt := inClass (top 64) 1
abbrev N_Draft_add : List Str := ["self", "station", "lines", "number", "position", "line"]
theorem sc_Draft_add : FnScope N_Draft_add ["self", "station", "lines"] (defScope s_Draft_add) := ⟨rfl, rfl, rfl, by decide +kernel, rfl, by decide +kernel, by decide +kernel⟩
theorem ok_Draft_add (F : Fun K "add" "Draft.add" s_Draft_add f fd) (T : Txt K mg aS a1 a2) (D : DrC K mg CD) : FnOk P w K mg base CX0 1 f fd ["self", "station", "lines"] (spAdd CD C) := by
  refine F.ok sc_Draft_add (fun vs H Q E h => ?_) (fun cdv A outer s H vs Q E hr h => ?_)
  · obtain ⟨d, S, Pp, Ll, v, t, ts, ps, lv, ls, rfl, _⟩ := h
    rfl
  obtain ⟨d, S, Pp, Ll, v, t, ts, ps, lv, ls, rfl, ⟨⟨dx, hd⟩, ⟨vs, hS, prS⟩, ⟨ws, hP, prP⟩, hne⟩, hv, hL, prL, nLS, nLP, m1, m2, m3, q⟩ := h
  have lS := paired_len prS
  have lP := paired_len prP
  have lL := paired_len prL
  have ndS : d ≠ S := fun z => by rw [z, hS] at hd; cases hd
  have ndP : d ≠ Pp := fun z => by rw [z, hP] at hd; cases hd
  refine ⟨_, (pss_cons (ps_set (i := 3) sc_Draft_add.nd rfl (Or.inl rfl) (pe_callB (kLen K rfl) rfl T.b_len bt_len (pa_cons (kFld K rfl (pv 0)) pa_nil)))
        (pss_cons (ps_expr (kBm K rfl PySem.F.plainAttrs_list PySem.F.slot_list_append PySem.F.type_list_append mt_append (kFld K rfl (pv 0)) (pa_cons (pv 1) pa_nil)))
        (pss_cons (ps_for PassesOwn.never rfl (kEnum K rfl rfl T.b_enumerate (pa_cons (pv 2) pa_nil)) (kTupG (n := 2) K rfl rfl (pgs_cons (pg_name (i := 4) sc_Draft_add.nd rfl (Or.inl rfl)) (pgs_cons (pg_name (i := 5) sc_Draft_add.nd rfl (Or.inl rfl)) pgs_nil)))
        (pss_one (ps_if (pt_cmp (pc_notN (pv 5)))
        (pss_one (ps_expr (kBm K rfl PySem.F.plainAttrs_list PySem.F.slot_list_append PySem.F.type_list_append mt_append (kFld K rfl (pv 0)) (pa_cons (pe_tup (kStar K rfl (pv 5) (pa_cons (pv 3) (pa_cons (pv 4) pa_nil)))) pa_nil))))
        pss_nil)))
        (pss_one (ps_ret (pv 3)))))), ?_⟩
  refine ⟨_, rfl, d, CD, dx, _, _, rfl, hd, D.cl, D.nS, lkS S Pp, _, _, rfl, .inl (SqL.of hS), ?_⟩
  rw [lS]
  refine ⟨_, rfl, d, CD, dx, _, _, rfl, hd, D.cl, D.nS, lkS S Pp, .inl ⟨rfl, _, SqL.of hS⟩, _, rfl, S, vs, v, rfl, rfl, hS, ?_, ?_⟩
  · exact Nat.lt_of_lt_of_le (show vs.length < 100000 by omega) (by decide)
  refine ⟨_, rfl, Ll, _, rfl, SqL.of ((upd_ne nLS).trans hL), for_it (walk_enum (xs := lv)) (fun i σ H' => ∃ (z4 z5 : Option V) (wx : List V), σ = [some (.ref d), some v, some (.ref Ll), some (.int ts.length), z4, z5] ∧ (∀ b o, b ≠ S → b ≠ Pp → H b = some o → H' b = some o) ∧ H' S = some (.lst (vs ++ [v])) ∧ H' Pp = some (.lst (ws ++ wx)) ∧ Paired (PipeA H') wx (pipesOf ts.length 0 (ls.take i)) ∧ wx.length ≤ i) ?h0 ?hG ?hs ?hd⟩
  case h0 => exact ⟨_, _, [], rfl, fun b o h1 h2 e => by rw [upd_ne h1]; exact e, upd_same, by rw [upd_ne (Ne.symm hne), List.append_nil]; exact hP, by simp [pipesOf]; exact .nil, Nat.le_refl _⟩
  case hG => exact fun i σ H' _ ⟨_, _, _, _, k, _⟩ => SqL.of (k _ _ nLS nLP hL)
  case hs =>
    rintro i x σ H1 H2 hi ⟨z4, z5, wx, rfl, kp, hS1, hP1, pw, hwx⟩ ⟨T0, p1, p2, rfl, hT0, rfl, hp1, hp2⟩
    obtain ⟨l, hl, hx⟩ := paired_get prL hp2
    have hil := lt_len hl
    obtain rfl : V.int (i : Nat) = p1 := by simpa using hp1
    have k0 := same_new hT0 (.tup [.int (i : Nat), p2])
    have tkp : Tups H H1 := fun b xs e => kp b _ (fun z => by rw [z, hS] at e; cases e) (fun z => by rw [z, hP] at e; cases e) e
    have hx1 := (hx.keep tkp).keep (Tups.of k0)
    refine ⟨_, _, rfl, SqT.of upd_same, rfl, _, _, rfl, _, _, rfl, rfl, ?_⟩
    have ptk : pipesOf ts.length 0 (ls.take (i + 1)) = pipesOf ts.length 0 (ls.take i) ++ pipesOf ts.length i [l] := by
      rw [List.take_succ, hl]
      show pipesOf ts.length 0 (ls.take i ++ [l]) = _
      rw [pipesOf_app, List.length_take, Nat.zero_add, Nat.min_eq_left (by omega)]
    cases l with
    | none =>
      obtain rfl : p2 = .non := hx1
      refine ⟨_, rfl, _, rfl, iteFd (by decide +kernel) ?_⟩
      refine ⟨_, _, wx, rfl, fun b o h1 h2 e => k0 _ _ (kp b o h1 h2 e), k0 _ _ hS1, k0 _ _ hP1, ?_, by omega⟩
      rw [ptk]
      simp only [pipesOf, List.append_nil]
      exact pipe_all (Tups.of k0) pw
    | some l =>
      obtain ⟨tt, rfl, htt⟩ := hx1
      refine ⟨_, rfl, _, rfl, iteTd (by simp) ?_⟩
      have hd1 := k0 _ _ (kp d _ ndS ndP hd)
      have hP2 := k0 _ _ hP1
      refine ⟨_, rfl, d, CD, dx, _, _, rfl, hd1, D.cl, D.nP, lkP S Pp, .inl ⟨rfl, _, SqL.of hP2⟩, _, rfl, tt, _, rfl, .inl (SqT.of htt), _, rfl, _, rfl, sz rfl, fun T1 hT1 => ?_⟩
      have k1 := same_new hT1 (.tup ([.int l.1, .int l.2] ++ [.int ts.length, .int (i : Nat)]))
      have hP3 := k1 _ _ hP2
      refine ⟨Pp, _, _, rfl, rfl, hP3, ?_, ?_⟩
      · exact Nat.lt_of_lt_of_le (show (ws ++ wx).length < 100000 by rw [List.length_append]; omega) (by decide)
      have kk : Tups H1 _ := (Tups.of (k0.trans' k1)).trans (tups_at (o := .lst ((ws ++ wx) ++ [.ref T1])) hP3)
      refine ⟨_, _, wx ++ [.ref T1], rfl, fun b o h1 h2 e => ?_, ?_, ?_, ?_, ?_⟩
      · rw [upd_ne h2]; exact k1 _ _ (k0 _ _ (kp b o h1 h2 e))
      · rw [upd_ne hne]; exact k1 _ _ (k0 _ _ hS1)
      · rw [upd_same, List.append_assoc]
      · rw [ptk]
        exact paired_app (pipe_all kk pw) (.cons ⟨T1, rfl, tups_at hP3 _ _ upd_same⟩ .nil)
      · rw [List.length_append]
        show wx.length + 1 ≤ i + 1
        omega
  case hd =>
    rintro σ H1 ⟨z4, z5, wx, rfl, kp, hS1, hP1, pw, hwx⟩
    rw [lL, List.take_of_length_le (Nat.le_refl _)] at pw
    have nl : NL H H1 := fun b o n e => kp b o (fun z => by rw [z, hS] at e; exact n _ (Option.some.inj e).symm) (fun z => by rw [z, hP] at e; exact n _ (Option.some.inj e).symm) e
    exact ⟨_, rfl, q _ kp ⟨⟨dx, kp d _ ndS ndP hd⟩, ⟨_, hS1, paired_app (stn_all nl prS) (.cons (hv.but2 nl) .nil)⟩, ⟨_, hP1, paired_app (pipe_all nl.tups prP) pw⟩, hne⟩⟩
end
end FY


set_option Elab.async false
set_option linter.all false
set_option maxRecDepth 100000
set_option maxHeartbeats 4000000
namespace FY
def copySt : Stn := ⟨1, 2, [⟨.one, [⟨[[false], [false]], 0, 1⟩, ⟨[[true], [true]], 0, 1⟩]⟩]⟩
def passSt : Stn := wayOf [[r1 [false] 0, r1 [true] 0]]
abbrev Stt := List Stn × List Pipe
def putS (st : Stt) (t : Stn) (ls : List Ln) : Stt := (st.1 ++ [t], st.2 ++ pipesOf st.1.length 0 ls)
def copS : Nat → Stt → Ln → Stt × List Ln × Ln
  | 0, st, l => (st, [], l)
  | k + 1, st, l => (putS (copS k st l).1 copySt [(copS k st l).2.2], (copS k st l).2.1 ++ [some ((copS k st l).1.1.length, 0)], some ((copS k st l).1.1.length, 1))
def partS : Tm → List Ln → Stt → Ln × List Ln × Stt
  | .inn, ls, st => (ls.headD none, ls.tail, st)
  | .one w t, ls, st => (some ((partS t ls st).2.2.1.length, 0), (partS t ls st).2.1, putS (partS t ls st).2.2 (stOf (.one w t)) [(partS t ls st).1])
  | .late b t, ls, st => (some ((partS t ls st).2.2.1.length, 0), (partS t ls st).2.1, putS (partS t ls st).2.2 (stOf (.late b t)) [(partS t ls st).1])
  | .byy a b c d t u, ls, st =>
    (some ((partS u (partS t ls st).2.1 (partS t ls st).2.2).2.2.1.length, 0), (partS u (partS t ls st).2.1 (partS t ls st).2.2).2.1,
      putS (partS u (partS t ls st).2.1 (partS t ls st).2.2).2.2 (stOf (.byy a b c d t u)) [(partS t ls st).1, (partS u (partS t ls st).2.1 (partS t ls st).2.2).1])
  | .keep t u, ls, st =>
    (some ((partS u (partS t ls st).2.1 (partS t ls st).2.2).2.2.1.length, 0), (partS u (partS t ls st).2.1 (partS t ls st).2.2).2.1,
      putS (partS u (partS t ls st).2.1 (partS t ls st).2.2).2.2 (stOf (.keep t u)) [(partS t ls st).1, (partS u (partS t ls st).2.1 (partS t ls st).2.2).1])
  | .thn t u, ls, st =>
    ((partS u ((copS (outerN u - 1) (partS t ls st).2.2 (partS t ls st).1).2.1 ++ [(copS (outerN u - 1) (partS t ls st).2.2 (partS t ls st).1).2.2]) (copS (outerN u - 1) (partS t ls st).2.2 (partS t ls st).1).1).1,
      (partS t ls st).2.1,
      (partS u ((copS (outerN u - 1) (partS t ls st).2.2 (partS t ls st).1).2.1 ++ [(copS (outerN u - 1) (partS t ls st).2.2 (partS t ls st).1).2.2]) (copS (outerN u - 1) (partS t ls st).2.2 (partS t ls st).1).1).2.2)
def copL (k : Nat) (st : Stt) (l : Ln) : List Ln := (copS k st l).2.1 ++ [(copS k st l).2.2]
def wholeS (t : Tm) (l : Ln) (st : Stt) : Ln × Stt := ((partS t (copL (outerN t - 1) st l) (copS (outerN t - 1) st l).1).1, (partS t (copL (outerN t - 1) st l) (copS (outerN t - 1) st l).1).2.2)
theorem partS_thn (t u : Tm) (ls : List Ln) (st : Stt) : partS (.thn t u) ls st = ((wholeS u (partS t ls st).1 (partS t ls st).2.2).1, (partS t ls st).2.1, (wholeS u (partS t ls st).1 (partS t ls st).2.2).2) := by
  rw [partS]; rfl
theorem outer_pos : ∀ t : Tm, 1 ≤ outerN t
  | .inn => Nat.le_refl 1
  | .one _ t => outer_pos t
  | .late _ t => outer_pos t
  | .byy _ _ _ _ t u => Nat.le_trans (outer_pos t) (Nat.le_add_right _ _)
  | .keep t u => Nat.le_trans (outer_pos t) (Nat.le_add_right _ _)
  | .thn t _ => outer_pos t
/-! ### all out-lines -/
def linesFrom : Nat → List Stn → List (Nat × Nat)
  | _, [] => []
  | n, t :: r => (List.range t.outs).map (fun k => (n, k)) ++ linesFrom (n + 1) r
theorem linesFrom_app : ∀ (n : Nat) (a b : List Stn), linesFrom n (a ++ b) = linesFrom n a ++ linesFrom (n + a.length) b
  | n, [], b => by simp [linesFrom]
  | n, t :: r, b => by
    simp only [List.cons_append, linesFrom, List.length_cons, linesFrom_app (n + 1) r b, List.append_assoc]
    congr 3
    omega
theorem mem_lines : ∀ {n : Nat} {ts : List Stn} {x : Nat × Nat}, x ∈ linesFrom n ts → ∃ i t, ts[i]? = some t ∧ x.1 = n + i ∧ x.2 < t.outs
  | n, [], x, h => by simp [linesFrom] at h
  | n, t :: r, x, h => by
    simp only [linesFrom, List.mem_append, List.mem_map, List.mem_range] at h
    rcases h with ⟨k, hk, rfl⟩ | h
    · exact ⟨0, t, rfl, rfl, hk⟩
    · obtain ⟨i, u, hu, e, hl⟩ := mem_lines h
      exact ⟨i + 1, u, by simpa using hu, by omega, hl⟩
theorem lines_nodup : ∀ (n : Nat) (ts : List Stn), (linesFrom n ts).Nodup
  | n, [] => List.nodup_nil
  | n, t :: r => by
    refine List.nodup_append.mpr ⟨?_, lines_nodup (n + 1) r, ?_⟩
    · refine List.Pairwise.map _ ?_ (List.nodup_range (n := t.outs))
      intro a b h e
      exact h (Prod.mk.inj e).2
    · intro a ha b hb e
      subst e
      obtain ⟨k, _, rfl⟩ := List.mem_map.mp ha
      obtain ⟨i, u, _, e, _⟩ := mem_lines hb
      have : n = n + 1 + i := e
      omega
def sumIns : List Stn → Nat
  | [] => 0
  | t :: r => t.ins + sumIns r
theorem sumIns_app : ∀ a b : List Stn, sumIns (a ++ b) = sumIns a + sumIns b
  | [], b => by simp [sumIns]
  | t :: r, b => by simp [sumIns, sumIns_app r b]; omega
def pb (p : Pipe) : Nat × Nat := (p.1, p.2.1)
def pe (p : Pipe) : Nat × Nat := (p.2.2.1, p.2.2.2)
def nons (ls : List Ln) : Nat := (ls.filter (·.isNone)).length
theorem nons_app (a b : List Ln) : nons (a ++ b) = nons a + nons b := by simp [nons]
theorem pipes_b (n : Nat) : ∀ (p : Nat) (ls : List Ln), (pipesOf n p ls).map pb = ls.filterMap id
  | p, [] => rfl
  | p, none :: r => by simpa [pipesOf] using pipes_b n (p + 1) r
  | p, some l :: r => by simpa [pipesOf, pb] using pipes_b n (p + 1) r
theorem pipes_len (n : Nat) : ∀ (p : Nat) (ls : List Ln), (pipesOf n p ls).length + nons ls = ls.length
  | p, [] => rfl
  | p, none :: r => by have := pipes_len n (p + 1) r; simp [pipesOf, nons] at this ⊢; omega
  | p, some l :: r => by have := pipes_len n (p + 1) r; simp [pipesOf, nons] at this ⊢; omega
theorem pipes_e (n : Nat) : ∀ (p : Nat) (ls : List Ln) (x : Pipe), x ∈ pipesOf n p ls → x.2.2.1 = n ∧ p ≤ x.2.2.2 ∧ x.2.2.2 < p + ls.length ∧ some (pb x) ∈ ls
  | p, [], x, h => by simp [pipesOf] at h
  | p, none :: r, x, h => by
    obtain ⟨a, b, c, d⟩ := pipes_e n (p + 1) r x (by simpa [pipesOf] using h)
    simp only [List.length_cons]
    exact ⟨a, by omega, by omega, List.mem_cons_of_mem _ d⟩
  | p, some l :: r, x, h => by
    simp only [pipesOf, List.mem_cons] at h
    simp only [List.length_cons]
    rcases h with rfl | h
    · exact ⟨rfl, Nat.le_refl _, by show p < _; omega, List.mem_cons_self ..⟩
    · obtain ⟨a, b, c, d⟩ := pipes_e n (p + 1) r x h
      exact ⟨a, by omega, by omega, List.mem_cons_of_mem _ d⟩
theorem pipes_nd (n : Nat) : ∀ (p : Nat) (ls : List Ln), ((pipesOf n p ls).map pe).Nodup
  | p, [] => List.nodup_nil
  | p, none :: r => by simpa [pipesOf] using pipes_nd n (p + 1) r
  | p, some l :: r => by
    simp only [pipesOf, List.map_cons]
    refine List.nodup_cons.mpr ⟨fun h => ?_, pipes_nd n (p + 1) r⟩
    obtain ⟨x, hx, e⟩ := List.mem_map.mp h
    obtain ⟨_, b, _⟩ := pipes_e n (p + 1) r x hx
    have : x.2.2.2 = p := (Prod.mk.inj e).2
    omega
/-! ### what holds while it is built -/
structure OkS (st : Stt) (toks : List Ln) : Prop where
  beg : (st.2.map pb ++ toks.filterMap id).Perm (linesFrom 0 st.1)
  cnt : st.2.length + 1 = sumIns st.1 + nons toks
  far : ∀ p ∈ st.2, p.1 < p.2.2.1 ∧ ∃ t, st.1[p.2.2.1]? = some t ∧ p.2.2.2 < t.ins
  ends : (st.2.map pe).Nodup
  fst : ∀ t, st.1.head? = some t → t.ins = 1
  okk : ∀ t ∈ st.1, t.ok
  ent : none ∈ toks → st.1 = []
theorem OkS.perm {st : Stt} {a b : List Ln} (h : OkS st a) (p : a.Perm b) : OkS st b :=
  ⟨(List.Perm.append_left _ (p.filterMap id).symm).trans h.beg, by
    have := (p.filter (·.isNone)).length_eq
    have := h.cnt
    unfold nons at *
    omega, h.far, h.ends, h.fst, h.okk, fun z => h.ent (p.mem_iff.mpr z)⟩
theorem OkS.start : OkS ([], []) [none] := ⟨by simp [linesFrom], rfl, by simp, List.nodup_nil, by simp, by simp, fun _ => rfl⟩
theorem OkS.put {st : Stt} {ls rest : List Ln} {t : Stn} (h : OkS st (ls ++ rest)) (hl : ls.length = t.ins) (ht : t.ok) : OkS (putS st t ls) ((List.range t.outs).map (fun k => some (st.1.length, k)) ++ rest) := by
  obtain ⟨ts, ps⟩ := st
  have hi1 := ht.i1
  -- what holds where nothing stands yet
  have h0 : ts = [] → rest = [] ∧ t.ins = 1 := by
    rintro rfl
    have hb := h.beg
    simp only [linesFrom, List.perm_nil, List.append_eq_nil_iff, List.map_eq_nil_iff] at hb
    obtain ⟨hp, hf⟩ := hb
    have hc := h.cnt
    simp only [hp, sumIns, List.length_nil, nons_app] at hc
    have all : ∀ x ∈ ls ++ rest, x = none := by
      intro x hx
      cases x with
      | none => rfl
      | some y =>
        have : y ∈ (ls ++ rest).filterMap id := List.mem_filterMap.mpr ⟨some y, hx, rfl⟩
        rw [hf] at this
        cases this
    have n1 : nons ls = ls.length := by
      unfold nons
      rw [List.filter_eq_self.mpr]
      intro x hx
      rw [all x (List.mem_append_left _ hx)]
      rfl
    have n2 : nons rest = rest.length := by
      unfold nons
      rw [List.filter_eq_self.mpr]
      intro x hx
      rw [all x (List.mem_append_right _ hx)]
      rfl
    exact ⟨List.eq_nil_of_length_eq_zero (by omega), by omega⟩
  have lm : ∀ x : Nat × Nat, some x ∈ ls → x.1 < ts.length := by
    intro x hx
    have hm : x ∈ linesFrom 0 ts := h.beg.mem_iff.mp (List.mem_append_right _ (List.mem_filterMap.mpr ⟨some x, List.mem_append_left _ hx, rfl⟩))
    obtain ⟨i, u, hu, e, _⟩ := mem_lines hm
    have := (List.getElem?_eq_some_iff.mp hu).1
    omega
  have fm : ((List.range t.outs).map (fun k => (some (ts.length, k) : Ln))).filterMap id = (List.range t.outs).map fun k => (ts.length, k) := by
    rw [List.filterMap_map]
    show List.filterMap (some ∘ fun k => (ts.length, k)) _ = _
    rw [List.filterMap_eq_map]
  have fn : nons ((List.range t.outs).map (fun k => (some (ts.length, k) : Ln))) = 0 := by
    unfold nons
    rw [List.length_eq_zero_iff, List.filter_eq_nil_iff]
    intro x hx
    obtain ⟨k, _, rfl⟩ := List.mem_map.mp hx
    simp
  refine ⟨?_, ?_, ?_, ?_, ?_, ?_, ?_⟩
  · show ((ps ++ pipesOf ts.length 0 ls).map pb ++ _).Perm (linesFrom 0 (ts ++ [t]))
    rw [List.map_append, pipes_b, List.filterMap_append, fm, linesFrom_app, Nat.zero_add]
    have e : linesFrom ts.length [t] = (List.range t.outs).map fun k => (ts.length, k) := by simp [linesFrom]
    rw [e]
    have hb := h.beg
    rw [List.filterMap_append] at hb
    refine List.Perm.trans ?_ (List.Perm.append_right _ hb)
    simp only [List.append_assoc]
    refine List.Perm.append_left _ (List.Perm.append_left _ List.perm_append_comm)
  · show (ps ++ pipesOf ts.length 0 ls).length + 1 = sumIns (ts ++ [t]) + _
    have h1 := pipes_len ts.length 0 ls
    have h2 : ps.length + 1 = sumIns ts + nons (ls ++ rest) := h.cnt
    rw [nons_app] at h2
    rw [List.length_append, sumIns_app, nons_app, fn]
    simp only [sumIns]
    omega
  · intro p hp
    rcases List.mem_append.mp hp with hp | hp
    · obtain ⟨a, u, hu, b⟩ := h.far p hp
      exact ⟨a, u, by show (ts ++ [t])[p.2.2.1]? = some u; rw [List.getElem?_append_left (List.getElem?_eq_some_iff.mp hu).1]; exact hu, b⟩
    · obtain ⟨a, _, c, d⟩ := pipes_e _ _ _ _ hp
      have := lm _ d
      refine ⟨by rw [a]; exact this, t, ?_, by omega⟩
      show (ts ++ [t])[p.2.2.1]? = some t
      rw [a]
      simp
  · show ((ps ++ pipesOf ts.length 0 ls).map pe).Nodup
    rw [List.map_append]
    refine List.nodup_append.mpr ⟨h.ends, pipes_nd _ _ _, ?_⟩
    intro a ha b hb e
    subst e
    obtain ⟨x, hx, rfl⟩ := List.mem_map.mp ha
    obtain ⟨y, hy, e⟩ := List.mem_map.mp hb
    obtain ⟨_, u, hu, _⟩ := h.far x hx
    obtain ⟨a1, _⟩ := pipes_e _ _ _ _ hy
    have := (List.getElem?_eq_some_iff.mp hu).1
    have e1 : y.2.2.1 = x.2.2.1 := (Prod.mk.inj e).1
    simp only at this
    omega
  · intro u hu
    cases ts with
    | nil =>
      have : t = u := by simpa [putS] using hu
      rw [← this]
      exact (h0 rfl).2
    | cons a r => exact h.fst u (by simpa [putS] using hu)
  · intro u hu
    rcases List.mem_append.mp hu with hu | hu
    · exact h.okk u hu
    · rw [List.mem_singleton.mp hu]
      exact ht
  · intro hn
    rcases List.mem_append.mp hn with hn | hn
    · obtain ⟨k, _, e⟩ := List.mem_map.mp hn
      cases e
    · have := h.ent (List.mem_append_right _ hn)
      rw [(h0 this).1] at hn
      cases hn
theorem copy_ok : copySt.ok := by
  refine ⟨Nat.le_refl 1, (by decide : 1 ≤ 2), (by decide : 1 ≤ 2), Nat.le_refl 2, Nat.le_refl 1, (by decide : 1 ≤ 4), fun s hs => ?_⟩
  obtain rfl : s = _ := List.mem_singleton.mp hs
  refine ⟨.inl rfl, rfl, fun r hr => ?_⟩
  simp only [List.mem_cons, List.not_mem_nil, or_false] at hr
  rcases hr with rfl | rfl
  · exact ⟨rfl, fun g hg => by simp at hg; rw [hg]; decide, (by decide : 0 < 1), Nat.le_refl 1, (by decide : 1 ≤ 9)⟩
  · exact ⟨rfl, fun g hg => by simp at hg; rw [hg]; decide, (by decide : 0 < 1), Nat.le_refl 1, (by decide : 1 ≤ 9)⟩
theorem copS_ok : ∀ (k : Nat) (st : Stt) (l : Ln) (rest : List Ln), OkS st (l :: rest) → OkS (copS k st l).1 (copL k st l ++ rest) ∧ (copS k st l).2.1.length = k ∧ (copS k st l).1.1.length = st.1.length + k
  | 0, st, l, rest, h => ⟨h, rfl, rfl⟩
  | k + 1, st, l, rest, h => by
    obtain ⟨h1, h2, h3⟩ := copS_ok k st l rest h
    have h4 : OkS (copS k st l).1 ([(copS k st l).2.2] ++ ((copS k st l).2.1 ++ rest)) := h1.perm (by
      unfold copL
      rw [← List.append_assoc]
      exact List.Perm.append_right _ List.perm_append_comm)
    refine ⟨(h4.put (t := copySt) rfl copy_ok).perm ?_, by simp [copS, h2], by simp [copS, putS, h3]; omega⟩
    show ([some ((copS k st l).1.1.length, 0), some ((copS k st l).1.1.length, 1)] ++ ((copS k st l).2.1 ++ rest)).Perm (((copS k st l).2.1 ++ [some ((copS k st l).1.1.length, 0)] ++ [some ((copS k st l).1.1.length, 1)]) ++ rest)
    rw [← List.append_assoc, List.append_assoc (copS k st l).2.1]
    exact List.Perm.append_right _ List.perm_append_comm
theorem stOf_ok {t : Tm} (h : t.isIn = false) (h2 : t.isThn = false) : (stOf t).ok ∧ (stOf t).ins = t.parts.length ∧ (stOf t).outs = 1 := by
  cases t with
  | inn => cases h
  | thn _ _ => cases h2
  | one w t => exact ⟨way_ok (rows_ok rfl), rfl, rfl⟩
  | late w t => exact ⟨way_ok (rows_ok rfl), rfl, rfl⟩
  | byy a b c d t u => exact ⟨two_ok (fun r hr => by
      simp only [List.mem_cons, List.not_mem_nil, or_false] at hr
      rcases hr with rfl | rfl | rfl | rfl <;> exact r1_ok (by simp) (by decide)) rfl, rfl, rfl⟩
  | keep t u => exact ⟨two_ok (fun r hr => by
      simp only [List.mem_cons, List.not_mem_nil, or_false] at hr
      rcases hr with rfl | rfl | rfl | rfl <;> exact r1_ok (by simp) (by decide)) rfl, rfl, rfl⟩
theorem copL_len (k : Nat) (st : Stt) (l : Ln) (rest : List Ln) (h : OkS st (l :: rest)) : (copL k st l).length = k + 1 := by
  simp [copL, (copS_ok k st l rest h).2.1]
theorem partS_ok : ∀ (t : Tm) (ls : List Ln) (st : Stt) (rest : List Ln), outerN t ≤ ls.length → OkS st (ls ++ rest) →
    OkS (partS t ls st).2.2 ((partS t ls st).1 :: ((partS t ls st).2.1 ++ rest)) ∧ (partS t ls st).2.1 = ls.drop (outerN t) ∧ (partS t ls st).2.2.1.length + outerN t ≤ st.1.length + t.nodes := by
  intro t
  induction t with
  | inn =>
    intro ls st rest hl h
    cases ls with
    | nil => simp [outerN] at hl
    | cons l r => exact ⟨h, rfl, Nat.le_refl _⟩
  | one w t ih =>
    intro ls st rest hl h
    obtain ⟨h1, h2, h3⟩ := ih ls st rest hl h
    have k := stOf_ok (t := .one w t) rfl rfl
    have p := OkS.put (ls := [(partS t ls st).1]) (rest := (partS t ls st).2.1 ++ rest) h1 k.2.1.symm k.1
    rw [k.2.2] at p
    exact ⟨p, h2, by simp [partS, putS, outerN, Tm.nodes]; omega⟩
  | late w t ih =>
    intro ls st rest hl h
    obtain ⟨h1, h2, h3⟩ := ih ls st rest hl h
    have k := stOf_ok (t := .late w t) rfl rfl
    have p := OkS.put (ls := [(partS t ls st).1]) (rest := (partS t ls st).2.1 ++ rest) h1 k.2.1.symm k.1
    rw [k.2.2] at p
    exact ⟨p, h2, by simp [partS, putS, outerN, Tm.nodes]; omega⟩
  | byy a b c d t u i1 i2 =>
    intro ls st rest hl h
    have hl' : outerN t + outerN u ≤ ls.length := hl
    obtain ⟨h1, h2, h3⟩ := i1 ls st rest (by omega) h
    obtain ⟨g1, g2, g3⟩ := i2 (partS t ls st).2.1 (partS t ls st).2.2 ((partS t ls st).1 :: rest) (by rw [h2, List.length_drop]; omega) (h1.perm (by
      exact List.perm_middle.symm))
    have k := stOf_ok (t := .byy a b c d t u) rfl rfl
    have p := OkS.put (ls := [(partS t ls st).1, (partS u (partS t ls st).2.1 (partS t ls st).2.2).1]) (rest := (partS u (partS t ls st).2.1 (partS t ls st).2.2).2.1 ++ rest) (g1.perm (by
      refine List.Perm.trans (List.Perm.cons _ List.perm_middle) ?_
      exact List.Perm.swap _ _ _)) k.2.1.symm k.1
    rw [k.2.2] at p
    refine ⟨p, ?_, by simp [partS, putS, outerN, Tm.nodes]; omega⟩
    show (partS u (partS t ls st).2.1 (partS t ls st).2.2).2.1 = _
    rw [g2, h2, List.drop_drop]
    rfl
  | keep t u i1 i2 =>
    intro ls st rest hl h
    have hl' : outerN t + outerN u ≤ ls.length := hl
    obtain ⟨h1, h2, h3⟩ := i1 ls st rest (by omega) h
    obtain ⟨g1, g2, g3⟩ := i2 (partS t ls st).2.1 (partS t ls st).2.2 ((partS t ls st).1 :: rest) (by rw [h2, List.length_drop]; omega) (h1.perm (by
      exact List.perm_middle.symm))
    have k := stOf_ok (t := .keep t u) rfl rfl
    have p := OkS.put (ls := [(partS t ls st).1, (partS u (partS t ls st).2.1 (partS t ls st).2.2).1]) (rest := (partS u (partS t ls st).2.1 (partS t ls st).2.2).2.1 ++ rest) (g1.perm (by
      refine List.Perm.trans (List.Perm.cons _ List.perm_middle) ?_
      exact List.Perm.swap _ _ _)) k.2.1.symm k.1
    rw [k.2.2] at p
    refine ⟨p, ?_, by simp [partS, putS, outerN, Tm.nodes]; omega⟩
    show (partS u (partS t ls st).2.1 (partS t ls st).2.2).2.1 = _
    rw [g2, h2, List.drop_drop]
    rfl
  | thn t u i1 i2 =>
    intro ls st rest hl h
    obtain ⟨h1, h2, h3⟩ := i1 ls st rest hl h
    obtain ⟨c1, c2, c3⟩ := copS_ok (outerN u - 1) _ _ _ h1
    have cl := copL_len (outerN u - 1) _ _ _ h1
    have up := outer_pos u
    obtain ⟨g1, g2, g3⟩ := i2 (copL (outerN u - 1) (partS t ls st).2.2 (partS t ls st).1) (copS (outerN u - 1) (partS t ls st).2.2 (partS t ls st).1).1 ((partS t ls st).2.1 ++ rest) (by omega) c1
    rw [partS_thn]
    refine ⟨?_, h2, ?_⟩
    · rw [g2, List.drop_of_length_le (by omega)] at g1
      exact g1
    · show (wholeS u (partS t ls st).1 (partS t ls st).2.2).2.1.length + outerN t ≤ st.1.length + (t.nodes + u.nodes + 1)
      show (partS u (copL (outerN u - 1) (partS t ls st).2.2 (partS t ls st).1) (copS (outerN u - 1) (partS t ls st).2.2 (partS t ls st).1).1).2.2.1.length + outerN t ≤ st.1.length + (t.nodes + u.nodes + 1)
      omega
theorem wholeS_ok (t : Tm) (l : Ln) (st : Stt) (rest : List Ln) (h : OkS st (l :: rest)) : OkS (wholeS t l st).2 ((wholeS t l st).1 :: rest) ∧ (wholeS t l st).2.1.length + 1 ≤ st.1.length + t.nodes := by
  obtain ⟨c1, c2, c3⟩ := copS_ok (outerN t - 1) _ _ _ h
  have cl := copL_len (outerN t - 1) _ _ _ h
  have up := outer_pos t
  obtain ⟨g1, g2, g3⟩ := partS_ok t (copL (outerN t - 1) st l) (copS (outerN t - 1) st l).1 rest (by omega) c1
  rw [g2, List.drop_of_length_le (by omega)] at g1
  refine ⟨g1, ?_⟩
  show (partS t (copL (outerN t - 1) st l) (copS (outerN t - 1) st l).1).2.2.1.length + 1 ≤ _
  omega
end FY

set_option Elab.async false
set_option linter.all false
set_option maxRecDepth 100000
set_option maxHeartbeats 4000000
namespace FY
open PySem L2 FYR
theorem mk_same {C x dx : Addr} {H : Hp} (hx : H x = none) (hdx : H dx = none) : Same H (upd (upd H dx (.own x)) x (.ins C dx [])) := fun b o e => by
  rw [upd_ne (ne_of_none e hx), upd_ne (ne_of_none e hdx)]
  exact e
theorem mk_after {x : Addr} {H H1 H2 : Hp} (hx : H x = none) (m : Same H H1) (k : ∀ b o, b ≠ x → H1 b = some o → H2 b = some o) : Same H H2 := fun b o e => k b o (ne_of_none e hx) (m _ _ e)
theorem DrA.keep {CD C : Addr} {H H' : Hp} {d S Pp : Addr} {ts : List Stn} {ps : List Pipe} (h : DrA CD C H d S Pp ts ps) (k : NL H H') (hS : ∀ xs, H S = some (.lst xs) → H' S = some (.lst xs)) (hP : ∀ xs, H Pp = some (.lst xs) → H' Pp = some (.lst xs)) : DrA CD C H' d S Pp ts ps := by
  obtain ⟨⟨dx, hd⟩, ⟨vs, h1, p1⟩, ⟨ws, h2, p2⟩, ne⟩ := h
  exact ⟨⟨dx, k _ _ (fun xs z => nomatch z) hd⟩, ⟨vs, hS _ h1, stn_all k p1⟩, ⟨ws, hP _ h2, pipe_all k.tups p2⟩, ne⟩
theorem DrA.same {CD C : Addr} {H H' : Hp} {d S Pp : Addr} {ts : List Stn} {ps : List Pipe} (h : DrA CD C H d S Pp ts ps) (k : Same H H') : DrA CD C H' d S Pp ts ps := h.keep (NL.of k) (fun xs e => k _ _ e) (fun xs e => k _ _ e)
theorem DrA.neS {CD C : Addr} {H : Hp} {d S Pp p : Addr} {ts : List Stn} {ps : List Pipe} (h : DrA CD C H d S Pp ts ps) (hp : H p = none) : p ≠ S ∧ p ≠ Pp := by
  obtain ⟨_, ⟨vs, h1, p1⟩, ⟨ws, h2, p2⟩, ne⟩ := h
  exact ⟨fun z => (by rw [z, h1] at hp; cases hp), fun z => (by rw [z, h2] at hp; cases hp)⟩
/-- all but the two lists -/
def Fr (S Pp : Addr) (H H' : Hp) : Prop := ∀ b o, b ≠ S → b ≠ Pp → H b = some o → H' b = some o
theorem Fr.of {S Pp : Addr} {H H' : Hp} (s : Same H H') : Fr S Pp H H' := fun b o _ _ e => s b o e
theorem Fr.trans {S Pp : Addr} {H H1 H2 : Hp} (a : Fr S Pp H H1) (b : Fr S Pp H1 H2) : Fr S Pp H H2 := fun c o h1 h2 e => b c o h1 h2 (a c o h1 h2 e)
theorem Fr.nl {CD C : Addr} {H H' : Hp} {d S Pp : Addr} {ts : List Stn} {ps : List Pipe} (f : Fr S Pp H H') (h : DrA CD C H d S Pp ts ps) : NL H H' := fun b o n e => by
  obtain ⟨_, ⟨vs, h1, p1⟩, ⟨ws, h2, p2⟩, ne⟩ := h
  exact f b o (fun z => by rw [z, h1] at e; exact n _ (Option.some.inj e).symm) (fun z => by rw [z, h2] at e; exact n _ (Option.some.inj e).symm) e
theorem Fr.none {CD C : Addr} {H H' : Hp} {d S Pp p : Addr} {ts ts' : List Stn} {ps ps' : List Pipe} (f : Fr S Pp H H') (h : DrA CD C H' d S Pp ts ps) (hp : H' p = none) : H p = none := by
  obtain ⟨n1, n2⟩ := h.neS hp
  cases e : H p with
  | none => rfl
  | some o => rw [f p o n1 n2 e] at hp; cases hp
theorem lna_all {H H' : Hp} (k : Tups H H') : ∀ {vs : List V} {ls : List Ln}, Paired (LnA H) vs ls → Paired (LnA H') vs ls
  | _, _, .nil => .nil
  | _, _, .cons r q => .cons (r.keep k) (lna_all k q)
theorem pipesOf_len (n : Nat) : ∀ (p : Nat) (ls : List Ln), (pipesOf n p ls).length ≤ ls.length
  | p, [] => Nat.le_refl 0
  | p, none :: r => Nat.le_succ_of_le (pipesOf_len n (p + 1) r)
  | p, some _ :: r => Nat.succ_le_succ (pipesOf_len n (p + 1) r)
theorem copS_len : ∀ (k : Nat) (st : Stt) (l : Ln), (copS k st l).1.1.length = st.1.length + k ∧ (copS k st l).1.2.length ≤ st.2.length + k ∧ (copS k st l).2.1.length = k
  | 0, st, l => ⟨rfl, Nat.le_refl _, rfl⟩
  | k + 1, st, l => by
    obtain ⟨h1, h2, h3⟩ := copS_len k st l
    have h4 := pipesOf_len (copS k st l).1.1.length 0 [(copS k st l).2.2]
    refine ⟨by simp [copS, putS, h1]; omega, ?_, by simp [copS, h3]⟩
    simp only [copS, putS, List.length_append, List.length_cons, List.length_nil] at h4 ⊢
    omega
def cpR (x : Bool) : Rw := ⟨[[x], [x]], 0, 1⟩
def spCopies (CD C : Addr) : Sp := fun vs H Q _ => ∃ (d S Pp : Addr) (v : V) (l : Ln) (k : Nat) (ts : List Stn) (ps : List Pipe), vs = [.ref d, v, .int ((k + 1 : Nat) : Int)] ∧ DrA CD C H d S Pp ts ps ∧ LnA H v l ∧ ts.length + k ≤ 900 ∧ ps.length + k ≤ 900 ∧
  ∀ H' p lv, Fr S Pp H H' → H p = none → H' p = some (.lst lv) → Paired (LnA H') lv (copL k (ts, ps) l) → DrA CD C H' d S Pp (copS k (ts, ps) l).1.1 (copS k (ts, ps) l).1.2 → Q (.ref p) H'
theorem lkA (S Pp : Addr) : (dflds S Pp).lookup ("add" : Str) = none := rfl
section
variable {P : Program} {w : World} {K : PySem.W.Frag} {mg : Str → Option Value} {base : Heap} {aS a1 a2 aL aT : Addr} {f : Addr} {fd : FuncData} {C CD : Addr}
abbrev s_Draft_copies : Stmt := inClass (top 64) 2
abbrev N_Draft_copies : List Str := ["self", "line", "many", "found", "last", "turn", "both", "number", "sign"]
theorem sc_Draft_copies : FnScope N_Draft_copies ["self", "line", "many"] (defScope s_Draft_copies) := ⟨rfl, rfl, rfl, by decide +kernel, rfl, by decide +kernel, by decide +kernel⟩
theorem ok_Draft_copies (F : Fun K "copies" "Draft.copies" s_Draft_copies f fd) (T : Txt K mg aS a1 a2) (mk_Station : C8.Mak P w K mg base 6 "Station" C (spStInit C) []) (m_Draft_add : C8.Met P w K mg base 1 CD "add" (spAdd CD C) []) : FnOk P w K mg base CX0 8 f fd ["self", "line", "many"] (spCopies CD C) := by
  refine F.ok sc_Draft_copies (fun vs H Q E h => ?_) (fun cdv A outer s H vs Q E hr h => ?_)
  · obtain ⟨d, S, Pp, v, l, k, ts, ps, rfl, _⟩ := h
    rfl
  obtain ⟨d, S, Pp, v, l, k, ts, ps, rfl, dr, hv, m1, m2, q⟩ := h
  refine ⟨_, (pss_cons (ps_par (i := 3) (j := 4) rfl sc_Draft_copies.nd rfl rfl (by decide) rfl rfl (pa_cons (pe_lst pa_nil) (pa_cons (pv 1) pa_nil)) rfl)
        (pss_cons (ps_for PassesOwn.never rfl (pi_range1 rfl T.b_range (pa_cons (pe_op op_sub (pv 2) pe_int) pa_nil)) (pg_name (i := 5) sc_Draft_copies.nd rfl (Or.inl rfl))
        (pss_cons (ps_setLc (i := 6) (own := [("sign", 8)]) rfl sc_Draft_copies.nd rfl rfl (sw_true rfl rfl rfl (by decide +kernel)) (pi_str pe_str) (blkOk_by (N := N_Draft_copies) (sc := defScope s_Draft_copies) (by decide +kernel)) (fun _ _ _ _ _ => (pg_name (i := 8) sc_Draft_copies.nd rfl (Or.inl rfl))) (fun _ _ _ _ _ => pts_nil) (fun _ _ _ _ _ => (pe_tup (pa_cons (pe_tup (pa_cons (pv 8) (pa_cons (pv 8) pa_nil))) (pa_cons pe_int (pa_cons pe_int pa_nil))))))
        (pss_cons (ps_set (i := 7) sc_Draft_copies.nd rfl (Or.inl rfl) (C8.pe_mt m_Draft_add hr (by decide) (pv 0) (pa_cons (C8.pe_mk mk_Station hr (by decide) rfl (pa_cons pe_int (pa_cons pe_int (pa_cons (pe_lst (pa_cons (pe_tup (pa_cons pe_str (pa_cons (pv 6) pa_nil))) pa_nil)) pa_nil)))) (pa_cons (pe_lst (pa_cons (pv 4) pa_nil)) pa_nil))))
        (pss_cons (ps_expr (kBm K rfl PySem.F.plainAttrs_list PySem.F.slot_list_append PySem.F.type_list_append mt_append (pv 3) (pa_cons (pe_tup (pa_cons (pv 7) (pa_cons pe_int pa_nil))) pa_nil)))
        (pss_one (ps_set (i := 4) sc_Draft_copies.nd rfl (Or.inl rfl) (pe_tup (pa_cons (pv 7) (pa_cons pe_int pa_nil)))))))))
        (pss_one (ps_ret (pe_op op_cat (pv 3) (pe_lst (pa_cons (pv 4) pa_nil))))))), ?_⟩
  refine ⟨Nat.zero_le _, fun F0 hF0 => ⟨_, rfl, _, _, rfl, ?_⟩⟩
  have s0 := same_new hF0 (.lst [])
  obtain ⟨nFS, nFP⟩ := dr.neS hF0
  have ek : (((k + 1 : Nat) : Int) - 1).toNat = k := by omega
  refine ⟨_, rfl, _, _, rfl, rfl, _, rfl, ?_, ?_, for_it walk_range (fun i σ H' => ∃ (lv : V) (z5 z6 z7 : Option V) (fv : List V), σ = [some (.ref d), some v, some (.int ((k + 1 : Nat) : Int)), some (.ref F0), some lv, z5, z6, z7, none] ∧ Fr S Pp H H' ∧ H' F0 = some (.lst fv) ∧ Paired (LnA H') fv (copS i (ts, ps) l).2.1 ∧ LnA H' lv (copS i (ts, ps) l).2.2 ∧ DrA CD C H' d S Pp (copS i (ts, ps) l).1.1 (copS i (ts, ps) l).1.2) ?h0 ?hG ?hs ?hd⟩
  · omega
  · omega
  case h0 => exact ⟨v, _, _, _, [], rfl, Fr.of s0, upd_same, .nil, hv.keep (Tups.of s0), dr.same s0⟩
  case hG => exact fun _ _ _ _ _ => trivial
  case hs =>
    rintro i x σ H1 H2 hi ⟨lv, z5, z6, z7, fv, rfl, fr, hF1, pf, hlv, dr1⟩ ⟨rfl, rfl⟩
    rw [ek] at hi
    obtain ⟨c1, c2, c3⟩ := copS_len i (ts, ps) l
    simp only at c1 c2
    have lf := paired_len pf
    rw [z01]
    refine ⟨_, rfl, fun B hB => lc_it walk_str (fun j H' => Same H2 H' ∧ ∃ us, H' B = some (.lst us) ∧ Paired (RwA H') us (([false, true].take j).map cpR)) ⟨same_new hB _, [], upd_same, .nil⟩ (fun _ _ _ _ => trivial) ?_ ?_⟩
    · rintro j x H3 H4 hj ⟨sm, us, hd, pu⟩ ⟨rfl, c, hc, rfl⟩
      obtain ⟨x, hx, rfl⟩ := tx_char hc
      have hil := lt_len hx
      have hlu := paired_len pu
      refine ⟨rfl, tyI ⟨_, rfl, _, rfl, sz rfl, fun g hg => ⟨sz rfl, fun a ha => ?_⟩⟩⟩
      have k1 := same_new hg (.tup [.str ⟨#[cd x]⟩, .str ⟨#[cd x]⟩])
      have k2 := same_new ha (.tup [.ref g, .int 0, .int 1])
      have hd2 := k2 _ _ (k1 _ _ hd)
      refine ⟨_, hd2, ?_, same_at ((sm.trans' k1).trans' k2) hB, us ++ [.ref a], upd_same, ?_⟩
      · rw [List.length_map, List.length_take] at hlu
        exact Nat.lt_of_lt_of_le (show us.length < 100000 by have : j < 2 := hil; omega) (by decide)
      · rw [← take_one _ hx]
        exact paired_app (rwA_all ((Tups.of (k1.trans' k2)).trans (tups_at hd2)) pu) (.cons ⟨a, g, rfl, tups_at hd2 _ _ upd_same, tups_at hd2 _ _ (k2 _ _ upd_same)⟩ .nil)
    · rintro H3 ⟨sm, us, hd, pu⟩
      have pu2 : Paired (RwA H3) us [cpR false, cpR true] := pu
      have dr3 := dr1.same sm
      obtain ⟨dx0, hdx0⟩ := dr3.ob
      refine ⟨_, rfl, d, dx0, _, rfl, hdx0, lkA S Pp, ?_⟩
      refine ⟨_, rfl, sz rfl, fun t0 ht0 => ⟨sz rfl, fun L hL => ?_⟩⟩
      have k1 := same_new ht0 (.tup [.str "1", .ref B])
      have k2 := same_new hL (.lst [.ref t0])
      intro x dx hx hdx hne
      have mm := mk_same (C := C) hx hdx
      refine ⟨x, L, dx, [.ref t0], copySt, rfl, upd_same, mm _ _ upd_same, told_all mm (.cons ⟨t0, B, us, rfl, k2 _ _ upd_same, k2 _ _ (k1 _ _ hd), rwA_all (Tups.of (k1.trans' k2)) pu2⟩ .nil), copy_ok, fun H5 k5 st5 => ⟨rfl, ?_⟩⟩
      have s5 := mk_after hx mm k5
      have s25 := ((sm.trans' k1).trans' k2).trans' s5
      refine ⟨_, rfl, sz rfl, fun L2 hL2 => ?_⟩
      have k6 := same_new hL2 (.lst [lv])
      have dr6 := (dr1.same s25).same k6
      obtain ⟨n1, n2⟩ := (dr1.same s25).neS hL2
      refine ⟨d, S, Pp, L2, _, copySt, _, _, [lv], [_], rfl, dr6, st5.but2 (NL.of k6), upd_same, .cons (hlv.keep (Tups.of (s25.trans' k6))) .nil, n1, n2, by omega, by omega, (by decide : 1 ≤ 1000), fun H7 f7 dr7 => ?_⟩
      have f17 : Fr S Pp H2 H7 := (Fr.of (s25.trans' k6)).trans f7
      have nl17 := f17.nl dr1
      have hF7 : H7 F0 = some (.lst fv) := f17 _ _ nFS nFP hF1
      refine ⟨_, rfl, .inl ⟨rfl, _, SqL.of hF7⟩, _, rfl, sz rfl, fun t1 ht1 => ?_⟩
      have k8 := same_new ht1 (.tup [.int (copS i (ts, ps) l).1.1.length, .int 0])
      have hF8 := k8 _ _ hF7
      refine ⟨F0, fv, .ref t1, rfl, rfl, hF8, ?_, ?_⟩
      · exact Nat.lt_of_lt_of_le (show fv.length < 100000 by omega) (by decide)
      refine ⟨_, rfl, sz rfl, fun t2 ht2 => ?_⟩
      obtain ⟨H8, hH8⟩ : ∃ H8, H8 = upd (upd H7 t1 (.tup [.int (copS i (ts, ps) l).1.1.length, .int 0])) F0 (.lst (fv ++ [.ref t1])) := ⟨_, rfl⟩
      have nl8 : NL H7 H8 := by rw [hH8]; exact (NL.of k8).trans (NL.at hF8)
      have fr8 : ∀ b o, b ≠ F0 → H7 b = some o → H8 b = some o := fun b o hb e => by rw [hH8, upd_ne hb]; exact k8 _ _ e
      have hF9 : H8 F0 = some (.lst (fv ++ [.ref t1])) := by rw [hH8, upd_same]
      have ht1' : H8 t1 = some (.tup [.int (copS i (ts, ps) l).1.1.length, .int 0]) := by
        rw [hH8, upd_ne (fun z => by rw [z, hF7] at ht1; cases ht1), upd_same]
      rw [← hH8] at ht2 ⊢
      clear hH8
      have k9 := same_new ht2 (.tup [.int (copS i (ts, ps) l).1.1.length, .int 1])
      have dr9 : DrA CD C H8 d S Pp _ _ := dr7.keep nl8 (fun xs e => fr8 _ _ (Ne.symm nFS) e) (fun xs e => fr8 _ _ (Ne.symm nFP) e)
      refine ⟨.ref t2, _, _, _, fv ++ [.ref t1], rfl, fun b o h1 h2 e => ?_, k9 _ _ hF9, ?_, ⟨t2, rfl, upd_same⟩, dr9.same k9⟩
      · exact k9 _ _ (fr8 b o (ne_of_none e hF0) (f17 b o h1 h2 (fr b o h1 h2 e)))
      · exact paired_app (lna_all ((nl17.trans nl8).tups.trans (Tups.of k9)) pf) (.cons ⟨t1, rfl, k9 _ _ ht1'⟩ .nil)
  case hd =>
    rintro σ H1 ⟨lv, z5, z6, z7, fv, rfl, fr, hF1, pf, hlv, dr1⟩
    rw [ek] at pf hlv dr1
    obtain ⟨c1, c2, c3⟩ := copS_len k (ts, ps) l
    have lf := paired_len pf
    refine ⟨_, rfl, _, rfl, sz rfl, fun L hL => ?_⟩
    have k1 := same_new hL (.lst [lv])
    refine ⟨F0, L, fv, [lv], rfl, rfl, k1 _ _ hF1, upd_same, ?_, fun p hp => ?_⟩
    · exact Nat.le_trans (show fv.length + 1 ≤ 100000 by omega) (by decide)
    have k2 := same_new hp (.lst (fv ++ [lv]))
    have k12 := k1.trans' k2
    refine q _ p _ (fr.trans (Fr.of k12)) (Fr.none (ts' := []) (ps' := []) (fr.trans (Fr.of k1)) (dr1.same k1) hp) upd_same ?_ (dr1.same k12)
    exact paired_app (lna_all (Tups.of k12) pf) (.cons (hlv.keep (Tups.of k12)) .nil)
end
end FY


set_option Elab.async false
set_option linter.all false
set_option maxRecDepth 100000
set_option maxHeartbeats 4000000
namespace FY
open PySem L2 FYR
theorem outer_le : ∀ t : Tm, outerN t ≤ t.nodes
  | .inn => Nat.le_refl 1
  | .one _ t => Nat.le_succ_of_le (outer_le t)
  | .late _ t => Nat.le_succ_of_le (outer_le t)
  | .byy _ _ _ _ t u => by have := outer_le t; have := outer_le u; simp [outerN, Tm.nodes]; omega
  | .keep t u => by have := outer_le t; have := outer_le u; simp [outerN, Tm.nodes]; omega
  | .thn t u => by have := outer_le t; simp [outerN, Tm.nodes]; omega
theorem sumO_app : ∀ a b : List Tm, sumO (a ++ b) = sumO a + sumO b
  | [], b => by simp [sumO]
  | t :: a, b => by simp [sumO, sumO_app a b]; omega
theorem sumO_le : ∀ a : List Tm, sumO a ≤ sumN a
  | [] => Nat.le_refl 0
  | t :: r => by have := outer_le t; have := sumO_le r; simp [sumO, sumN]; omega
/-! the parts of a node, one behind another -/
abbrev Acc := List Ln × List Ln × Stt
def stepP (a : Acc) (t : Tm) : Acc := (a.1 ++ [(partS t a.2.1 a.2.2).1], (partS t a.2.1 a.2.2).2.1, (partS t a.2.1 a.2.2).2.2)
def foldP (us : List Tm) (ls : List Ln) (st : Stt) : Acc := us.foldl stepP ([], ls, st)
theorem foldP_snoc (us : List Tm) (u : Tm) (ls : List Ln) (st : Stt) : foldP (us ++ [u]) ls st = stepP (foldP us ls st) u := by simp [foldP, List.foldl_append]
theorem partS_fold {t : Tm} (h : t.isIn = false) (h2 : t.isThn = false) (ls : List Ln) (st : Stt) : partS t ls st = (some ((foldP t.parts ls st).2.2.1.length, 0), (foldP t.parts ls st).2.1, putS (foldP t.parts ls st).2.2 (stOf t) (foldP t.parts ls st).1) := by
  cases t with
  | inn => cases h
  | thn _ _ => cases h2
  | _ => rfl
structure LenS (st : Stt) (o n : Nat) (st' : Stt) : Prop where
  up : st'.1.length + o ≤ st.1.length + n
  ge : st.1.length ≤ st'.1.length
  pp : st'.2.length + 2 * st.1.length ≤ st.2.length + 2 * st'.1.length
theorem putS_len (st : Stt) (t : Stn) (ls : List Ln) (h : ls.length ≤ 2) : (putS st t ls).1.length = st.1.length + 1 ∧ (putS st t ls).2.length ≤ st.2.length + 2 := by
  have := pipesOf_len st.1.length 0 ls
  simp [putS]
  omega
theorem copS_pp : ∀ (k : Nat) (st : Stt) (l : Ln), (copS k st l).1.2.length + 2 * st.1.length ≤ st.2.length + 2 * (copS k st l).1.1.length := fun k st l => by
  obtain ⟨h1, h2, _⟩ := copS_len k st l
  omega
theorem partS_len : ∀ (t : Tm) (ls : List Ln) (st : Stt), LenS st (outerN t) t.nodes (partS t ls st).2.2 ∧ (partS t ls st).2.1 = ls.drop (outerN t) := by
  intro t
  induction t with
  | inn => intro ls st; exact ⟨⟨Nat.le_refl _, Nat.le_refl _, Nat.le_refl _⟩, by cases ls <;> rfl⟩
  | one w t ih =>
    intro ls st
    obtain ⟨⟨a, b, c⟩, d⟩ := ih ls st
    obtain ⟨p1, p2⟩ := putS_len (partS t ls st).2.2 (stOf (.one w t)) [(partS t ls st).1] (by simp)
    refine ⟨⟨?_, ?_, ?_⟩, d⟩ <;> simp only [partS, outerN, Tm.nodes] <;> omega
  | late w t ih =>
    intro ls st
    obtain ⟨⟨a, b, c⟩, d⟩ := ih ls st
    obtain ⟨p1, p2⟩ := putS_len (partS t ls st).2.2 (stOf (.late w t)) [(partS t ls st).1] (by simp)
    refine ⟨⟨?_, ?_, ?_⟩, d⟩ <;> simp only [partS, outerN, Tm.nodes] <;> omega
  | byy b1 b2 b3 b4 t u i1 i2 =>
    intro ls st
    obtain ⟨⟨a, b, c⟩, d⟩ := i1 ls st
    obtain ⟨⟨a', b', c'⟩, d'⟩ := i2 (partS t ls st).2.1 (partS t ls st).2.2
    obtain ⟨p1, p2⟩ := putS_len (partS u (partS t ls st).2.1 (partS t ls st).2.2).2.2 (stOf (.byy b1 b2 b3 b4 t u)) [(partS t ls st).1, (partS u (partS t ls st).2.1 (partS t ls st).2.2).1] (by simp)
    refine ⟨⟨?_, ?_, ?_⟩, ?_⟩
    · simp only [partS, outerN, Tm.nodes]; omega
    · simp only [partS, outerN, Tm.nodes]; omega
    · simp only [partS, outerN, Tm.nodes]; omega
    · show (partS u (partS t ls st).2.1 (partS t ls st).2.2).2.1 = _
      rw [d', d, List.drop_drop]
      rfl
  | keep t u i1 i2 =>
    intro ls st
    obtain ⟨⟨a, b, c⟩, d⟩ := i1 ls st
    obtain ⟨⟨a', b', c'⟩, d'⟩ := i2 (partS t ls st).2.1 (partS t ls st).2.2
    obtain ⟨p1, p2⟩ := putS_len (partS u (partS t ls st).2.1 (partS t ls st).2.2).2.2 (stOf (.keep t u)) [(partS t ls st).1, (partS u (partS t ls st).2.1 (partS t ls st).2.2).1] (by simp)
    refine ⟨⟨?_, ?_, ?_⟩, ?_⟩
    · simp only [partS, outerN, Tm.nodes]; omega
    · simp only [partS, outerN, Tm.nodes]; omega
    · simp only [partS, outerN, Tm.nodes]; omega
    · show (partS u (partS t ls st).2.1 (partS t ls st).2.2).2.1 = _
      rw [d', d, List.drop_drop]
      rfl
  | thn t u i1 i2 =>
    intro ls st
    obtain ⟨⟨a, b, c⟩, d⟩ := i1 ls st
    obtain ⟨h1, h2, h3⟩ := copS_len (outerN u - 1) (partS t ls st).2.2 (partS t ls st).1
    obtain ⟨⟨a', b', c'⟩, d'⟩ := i2 ((copS (outerN u - 1) (partS t ls st).2.2 (partS t ls st).1).2.1 ++ [(copS (outerN u - 1) (partS t ls st).2.2 (partS t ls st).1).2.2]) (copS (outerN u - 1) (partS t ls st).2.2 (partS t ls st).1).1
    have up := outer_pos u
    refine ⟨⟨?_, ?_, ?_⟩, d⟩ <;> simp only [partS, outerN, Tm.nodes] <;> omega
theorem foldP_len (ls : List Ln) (st : Stt) (us : List Tm) : LenS st (sumO us) (sumN us) (foldP us ls st).2.2 ∧ (foldP us ls st).2.1 = ls.drop (sumO us) ∧ (foldP us ls st).1.length = us.length := by
  have key : ∀ us : List Tm, LenS st (sumO us.reverse) (sumN us.reverse) (foldP us.reverse ls st).2.2 ∧ (foldP us.reverse ls st).2.1 = ls.drop (sumO us.reverse) ∧ (foldP us.reverse ls st).1.length = us.reverse.length := by
    intro us
    induction us with
    | nil => exact ⟨⟨Nat.le_refl _, Nat.le_refl _, Nat.le_refl _⟩, rfl, rfl⟩
    | cons u us ih =>
      obtain ⟨⟨a, b, c⟩, d, e⟩ := ih
      rw [List.reverse_cons, foldP_snoc]
      generalize us.reverse = us at *
      obtain ⟨⟨a', b', c'⟩, d'⟩ := partS_len u (foldP us ls st).2.1 (foldP us ls st).2.2
      simp only [stepP, sumO_app, sumN_app, sumO, sumN, List.length_append, List.length_cons, List.length_nil]
      exact ⟨⟨by omega, by omega, by omega⟩, by rw [d', d, List.drop_drop]; simp, by omega⟩
  have := key us.reverse
  rwa [List.reverse_reverse] at this
/-- all but three lists -/
def Fr3 (S Pp Ll : Addr) (H H' : Hp) : Prop := ∀ b o, b ≠ S → b ≠ Pp → b ≠ Ll → H b = some o → H' b = some o
theorem Fr3.of {S Pp Ll : Addr} {H H' : Hp} (s : Same H H') : Fr3 S Pp Ll H H' := fun b o _ _ _ e => s b o e
theorem Fr3.of2 {S Pp Ll : Addr} {H H' : Hp} (s : Fr S Pp H H') : Fr3 S Pp Ll H H' := fun b o h1 h2 _ e => s b o h1 h2 e
theorem Fr3.trans {S Pp Ll : Addr} {H H1 H2 : Hp} (a : Fr3 S Pp Ll H H1) (b : Fr3 S Pp Ll H1 H2) : Fr3 S Pp Ll H H2 := fun c o h1 h2 h3 e => b c o h1 h2 h3 (a c o h1 h2 h3 e)
theorem Fr3.nl {CD C : Addr} {H H' : Hp} {d S Pp Ll : Addr} {ts : List Stn} {ps : List Pipe} {lv : List V} (f : Fr3 S Pp Ll H H') (h : DrA CD C H d S Pp ts ps) (hL : H Ll = some (.lst lv)) : NL H H' := fun b o n e => by
  obtain ⟨_, ⟨vs, h1, p1⟩, ⟨ws, h2, p2⟩, ne⟩ := h
  exact f b o (fun z => by rw [z, h1] at e; exact n _ (Option.some.inj e).symm) (fun z => by rw [z, h2] at e; exact n _ (Option.some.inj e).symm) (fun z => by rw [z, hL] at e; exact n _ (Option.some.inj e).symm) e
def spPart (CD C : Addr) (n : Nat) : Sp := fun vs H Q _ => ∃ (d S Pp Ll : Addr) (v : V) (t : Tm) (ts : List Stn) (ps : List Pipe) (lv : List V) (ls : List Ln), vs = [.ref d, v, .ref Ll] ∧ DrA CD C H d S Pp ts ps ∧ TA H v t ∧ t.nodes ≤ n ∧ t.nodes ≤ 40 ∧ H Ll = some (.lst lv) ∧ Paired (LnA H) lv ls ∧ Ll ≠ S ∧ Ll ≠ Pp ∧ outerN t ≤ ls.length ∧ ts.length + t.nodes ≤ 400 + outerN t ∧ ps.length ≤ 2 * ts.length ∧
  ∀ H' v' lv', Fr3 S Pp Ll H H' → DrA CD C H' d S Pp (partS t ls (ts, ps)).2.2.1 (partS t ls (ts, ps)).2.2.2 → LnA H' v' (partS t ls (ts, ps)).1 → H' Ll = some (.lst lv') → Paired (LnA H') lv' (partS t ls (ts, ps)).2.1 → Q v' H'
def spWhole (CD C : Addr) (n : Nat) : Sp := fun vs H Q _ => ∃ (d S Pp : Addr) (v x : V) (t : Tm) (l : Ln) (ts : List Stn) (ps : List Pipe), vs = [.ref d, v, x] ∧ DrA CD C H d S Pp ts ps ∧ TA H v t ∧ t.nodes ≤ n ∧ t.nodes ≤ 40 ∧ LnA H x l ∧ ts.length + t.nodes ≤ 401 ∧ ps.length ≤ 2 * ts.length ∧
  ∀ H' v', Fr S Pp H H' → DrA CD C H' d S Pp (wholeS t l (ts, ps)).2.1 (wholeS t l (ts, ps)).2.2 → LnA H' v' (wholeS t l (ts, ps)).1 → Q v' H'
theorem lkC (S Pp : Addr) : (dflds S Pp).lookup ("copies" : Str) = none := rfl
theorem lkPa (S Pp : Addr) : (dflds S Pp).lookup ("part" : Str) = none := rfl
theorem lkW (S Pp : Addr) : (dflds S Pp).lookup ("whole" : Str) = none := rfl
theorem lkM (S Pp : Addr) : (dflds S Pp).lookup ("made" : Str) = none := rfl
theorem seq0 (n : Nat) : seqIndex? 0 (n + 1) = some 0 := by
  unfold seqIndex?
  simp
section
variable {P : Program} {w : World} {K : PySem.W.Frag} {mg : Str → Option Value} {base : Heap} {aS a1 a2 aL aT : Addr} {f g : Addr} {fd gd : FuncData} {C CD : Addr}
abbrev s_Draft_whole : Stmt := inClass (top 64) 3
abbrev N_Draft_whole : List Str := ["self", "term", "line"]
theorem sc_Draft_whole : FnScope N_Draft_whole ["self", "term", "line"] (defScope s_Draft_whole) := ⟨rfl, rfl, rfl, by decide +kernel, rfl, by decide +kernel, by decide +kernel⟩
theorem step_whole {n : Nat} (F : Fun K "whole" "Draft.whole" s_Draft_whole f fd) (m_Draft_copies : C8.Met P w K mg base 8 CD "copies" (spCopies CD C) []) (c_outer_ins : C8.Cal P w K mg base (n + 1) "outer_ins" (spOuter n) []) (m_Draft_part : C8.Met P w K mg base (2 * n + 10) CD "part" (spPart CD C n) []) : FnOk P w K mg base CX0 (2 * n + 11) f fd ["self", "term", "line"] (spWhole CD C n) := by
  refine F.ok sc_Draft_whole (fun vs H Q E h => ?_) (fun cdv A outer s H vs Q E hr h => ?_)
  · obtain ⟨d, S, Pp, v, x, t, l, ts, ps, rfl, _⟩ := h
    rfl
  obtain ⟨d, S, Pp, v, x, t, l, ts, ps, rfl, dr, ta, tn, t40, hx, m1, m2, q⟩ := h
  refine ⟨_, (pss_one (ps_ret (C8.pe_mt m_Draft_part hr (by omega) (pv 0) (pa_cons (pv 1) (pa_cons (C8.pe_mt m_Draft_copies hr (by omega) (pv 0) (pa_cons (pv 2) (pa_cons (C8.pe_c c_outer_ins hr (by omega) rfl (pa_cons (pv 1) pa_nil)) pa_nil))) pa_nil))))), ?_⟩
  obtain ⟨dx, hd⟩ := dr.ob
  have op := outer_pos t
  have ol := outer_le t
  refine ⟨_, rfl, d, dx, _, rfl, hd, lkPa S Pp, _, rfl, _, rfl, d, dx, _, rfl, hd, lkC S Pp, _, rfl, _, rfl, v, t, rfl, ta, tn, t40, fun H1 s1 => ?_⟩
  have ek : V.int (outerN t : Int) = V.int ((outerN t - 1 + 1 : Nat) : Int) := by rw [Nat.sub_add_cancel op]
  obtain ⟨c1, c2, c3⟩ := copS_len (outerN t - 1) (ts, ps) l
  simp only at c1 c2
  refine ⟨d, S, Pp, x, l, outerN t - 1, ts, ps, by rw [← ek]; rfl, dr.same s1, hx.keep (Tups.of s1), by omega, by omega, fun H2 p lv f2 hp hp2 pl dr2 => ?_⟩
  have nl2 : NL H1 H2 := f2.nl (dr.same s1)
  obtain ⟨np1, np2⟩ : p ≠ S ∧ p ≠ Pp := (dr.same s1).neS hp
  refine ⟨d, S, Pp, p, v, t, _, _, lv, copL (outerN t - 1) (ts, ps) l, rfl, dr2, (ta.keep (Tups.of s1)).keep nl2.tups, tn, t40, hp2, pl, np1, np2, ?_, ?_, ?_, fun H3 v3 lv3 f3 dr3 hv3 _ _ => ?_⟩
  · simp only [copL, List.length_append, c3, List.length_cons, List.length_nil]
    omega
  · rw [c1]
    omega
  · rw [c1]
    omega
  · refine q _ _ (fun b o h1 h2 e => ?_) dr3 hv3
    have e1 := s1 _ _ e
    exact f3 b o h1 h2 (ne_of_none e1 hp) (f2 b o h1 h2 e1)
abbrev s_Draft_part : Stmt := inClass (top 64) 4
abbrev N_Draft_part : List Str := ["self", "term", "lines", "read", "part"]
theorem sc_Draft_part : FnScope N_Draft_part ["self", "term", "lines"] (defScope s_Draft_part) := ⟨rfl, rfl, rfl, by decide +kernel, rfl, by decide +kernel, by decide +kernel⟩
theorem step_part {n : Nat} (F : Fun K "part" "Draft.part" s_Draft_part f fd) (T : Txt K mg aS a1 a2) (c_parts_of : C8.Cal P w K mg base 1 "parts_of" spPartsOf []) (c_station_of : C8.Cal P w K mg base 9 "station_of" (spStOf C) []) (m_Draft_add : C8.Met P w K mg base 1 CD "add" (spAdd CD C) []) (m_Draft_part : C8.Met P w K mg base (2 * n + 10) CD "part" (spPart CD C n) []) (m_Draft_whole : C8.Met P w K mg base (2 * n + 11) CD "whole" (spWhole CD C n) []) : FnOk P w K mg base CX0 (2 * n + 12) f fd ["self", "term", "lines"] (spPart CD C (n + 1)) := by
  refine F.ok sc_Draft_part (fun vs H Q E h => ?_) (fun cdv A outer s H vs Q E hr h => ?_)
  · obtain ⟨d, S, Pp, Ll, v, t, ts, ps, lv, ls, rfl, _⟩ := h
    rfl
  obtain ⟨d, S, Pp, Ll, v, t, ts, ps, lv, ls, rfl, dr, ta, tn, t40, hL, pl, nLS, nLP, ho, m1, m2, q⟩ := h
  refine ⟨_, (pss_cons (ps_if (pt_cmpR (kEqD K rfl hr.units) (pv 1) (C8.pe_gc rfl T.g_IN) (nomark _))
        (pss_one (ps_ret (kBm K rfl PySem.F.plainAttrs_list PySem.F.slot_list_pop PySem.F.type_list_pop mt_popAt (pv 2) (pa_cons pe_int pa_nil))))
        pss_nil)
        (pss_cons (ps_if (pt_cmpR op_eq (pe_ix (kIxT K rfl) (pv 1) pe_int (fun _ _ => rfl)) (C8.pe_gc rfl T.g_THEN) (nomark _))
        (pss_one (ps_ret (C8.pe_mt m_Draft_whole hr (by omega) (pv 0) (pa_cons (pe_ix (kIxT K rfl) (pv 1) pe_int (fun _ _ => rfl)) (pa_cons (C8.pe_mt m_Draft_part hr (by omega) (pv 0) (pa_cons (pe_ix (kIxT K rfl) (pv 1) pe_int (fun _ _ => rfl)) (pa_cons (pv 2) pa_nil))) pa_nil)))))
        pss_nil)
        (pss_cons (ps_setLc (i := 3) (own := [("part", 4)]) rfl sc_Draft_part.nd rfl rfl (sw_true rfl rfl rfl (by decide +kernel)) (kTup K rfl (C8.pe_c c_parts_of hr (by omega) rfl (pa_cons (pv 1) pa_nil))) (blkOk_by (N := N_Draft_part) (sc := defScope s_Draft_part) (by decide +kernel)) (fun _ _ _ _ _ => (pg_name (i := 4) sc_Draft_part.nd rfl (Or.inl rfl))) (fun _ _ _ _ _ => pts_nil) (fun _ _ _ _ _ => (C8.pe_mt m_Draft_part hr (by omega) (pv 0) (pa_cons (pv 4) (pa_cons (pv 2) pa_nil)))))
        (pss_one (ps_ret (pe_tup (pa_cons (C8.pe_mt m_Draft_add hr (by omega) (pv 0) (pa_cons (C8.pe_c c_station_of hr (by omega) rfl (pa_cons (pv 1) pa_nil)) (pa_cons (pv 3) pa_nil))) (pa_cons pe_int pa_nil)))))))), ?_⟩
  obtain ⟨dx, hd⟩ := dr.ob
  refine ⟨_, rfl, _, _, ta.dp, .str _, shp_tm t40, shp_in, _, rfl, ?_⟩
  rw [eqv_in]
  cases hin : t.isIn with
  | true =>
    have e : t = .inn := by cases t <;> first | rfl | cases hin
    subst e
    refine iteT ⟨_, rfl, .inl ⟨rfl, _, SqL.of hL⟩, ?_⟩
    cases pl with
    | nil => simp [outerN] at ho
    | @cons x1 l1 xr lr r1 rr =>
      refine ⟨Ll, _, 0, 0, x1, rfl, rfl, hL, by decide, by decide, seq0 _, rfl, ?_⟩
      have nl := NL.at (o := .lst (x1 :: xr).tail) hL
      exact q _ _ xr (fun b o _ _ h3 e => by rw [upd_ne h3]; exact e) (dr.keep nl (fun xs e => by rw [upd_ne (Ne.symm nLS)]; exact e) (fun xs e => by rw [upd_ne (Ne.symm nLP)]; exact e)) (r1.keep nl.tups) upd_same (lna_all nl.tups rr)
  | false =>
    refine iteF ?_
    obtain ⟨a, us, rfl, ha, pu⟩ := ta.node hin
    refine ⟨_, rfl, _, _, _, _, rfl, rfl, SqT.of ha, at0, rfl, _, rfl, ?_⟩
    rw [word_then]
    cases hth : t.isThn with
    | true =>
      cases t with
      | thn t u =>
        refine iteT ?_
        obtain ⟨a', x, y, ea, h, r, r'⟩ := ta
        cases ea
        have hnd : (Tm.thn t u).nodes = t.nodes + u.nodes + 1 := rfl
        have hod : outerN (Tm.thn t u) = outerN t := rfl
        have up := u.nodes_pos
        rw [hnd] at tn t40 m1
        rw [hod] at ho m1
        refine ⟨_, rfl, d, dx, _, rfl, hd, lkW S Pp, _, rfl, _, _, _, _, rfl, rfl, SqT.of h, rfl, ?_⟩
        refine ⟨_, rfl, d, dx, _, rfl, hd, lkPa S Pp, _, rfl, _, _, _, _, rfl, rfl, SqT.of h, rfl, _, rfl, ?_⟩
        obtain ⟨⟨p1, p2, p3⟩, p4⟩ := partS_len t ls (ts, ps)
        simp only at p1 p2 p3
        refine ⟨d, S, Pp, Ll, x, t, ts, ps, lv, ls, rfl, dr, r, by omega, by omega, hL, pl, nLS, nLP, ho, by omega, m2, fun H1 v1 lv1 f1 dr1 hv1 hL1 pl1 => ?_⟩
        have nl1 := f1.nl dr hL
        refine ⟨d, S, Pp, y, v1, u, _, _, _, rfl, dr1, r'.keep nl1.tups, by omega, by omega, hv1, by omega, by omega, fun H2 v2 f2 dr2 hv2 => ?_⟩
        have nl2 := f2.nl dr1
        rw [partS_thn] at q
        exact q _ _ lv1 (f1.trans (Fr3.of2 f2)) dr2 hv2 (f2 _ _ nLS nLP hL1) (lna_all nl2.tups pl1)
      | _ => cases hth
    | false =>
      refine iteF ?_
      have hf := parts_few t
      have hsO := outer_parts hin hth
      have hsN := sumN_parts t
      refine ⟨_, rfl, .ref a, t, rfl, ta, Nat.le_trans t.dep_le (by omega), fun H1 p ws s1 hp1 pr1 => ?_⟩
      have hwl := paired_len pr1
      have dr1 := dr.same s1
      have hL1 := s1 _ _ hL
      have pl1 := lna_all (Tups.of s1) pl
      refine ⟨_, rfl, ⟨_, SqT.of hp1⟩, fun D hD => ?_⟩
      obtain ⟨nD1, nD2⟩ := dr1.neS hD
      have nD3 : D ≠ Ll := fun z => by rw [z, hL1] at hD; cases hD
      have hpS : p ≠ S := fun z => by obtain ⟨_, ⟨_, h1, _⟩, _, _⟩ := dr1; rw [z, h1] at hp1; cases hp1
      have hpP : p ≠ Pp := fun z => by obtain ⟨_, _, ⟨_, h1, _⟩, _⟩ := dr1; rw [z, h1] at hp1; cases hp1
      have hpL : p ≠ Ll := fun z => by rw [z, hL1] at hp1; cases hp1
      refine lc_it walk_tup (fun i H' => ∃ (rv lv' : List V), Fr3 S Pp Ll H1 H' ∧ H' D = some (.lst rv) ∧ Paired (LnA H') rv (foldP (t.parts.take i) ls (ts, ps)).1 ∧ H' Ll = some (.lst lv') ∧ Paired (LnA H') lv' (foldP (t.parts.take i) ls (ts, ps)).2.1 ∧ DrA CD C H' d S Pp (foldP (t.parts.take i) ls (ts, ps)).2.2.1 (foldP (t.parts.take i) ls (ts, ps)).2.2.2) ?h0 (fun i H' _ ⟨_, _, z, _⟩ => SqT.of (z _ _ hpS hpP hpL hp1)) ?hs ?hd
      case h0 =>
        have kD := same_new hD (.lst [])
        exact ⟨[], lv, Fr3.of kD, upd_same, .nil, kD _ _ hL1, lna_all (Tups.of kD) pl1, dr1.same kD⟩
      case hs =>
        rintro i x H3 H4 hi ⟨rv, lv', f3, hd3, pr3, hL3, pl3, dr3⟩ ⟨rfl, hx⟩
        obtain ⟨u, hu, hxu⟩ := paired_get pr1 hx
        have hun := parts_nodes (List.mem_of_getElem? hu)
        have hil := lt_len hu
        obtain ⟨dx3, hdx3⟩ := dr3.ob
        have hlr := paired_len pr3
        have hll := paired_len pl3
        obtain ⟨⟨l1, l2, l3⟩, l4, l5⟩ := foldP_len ls (ts, ps) (t.parts.take i)
        simp only at l1 l2 l3
        have tk : t.parts.take (i + 1) = t.parts.take i ++ [u] := by rw [List.take_succ, hu]; rfl
        have spl : t.parts.take (i + 1) ++ t.parts.drop (i + 1) = t.parts := List.take_append_drop _ _
        have sN : sumN (t.parts.take i) + u.nodes + sumN (t.parts.drop (i + 1)) = sumN t.parts := by
          rw [← congrArg sumN spl, sumN_app, tk, sumN_app]
          simp [sumN]
        have sO : sumO (t.parts.take i) + outerN u + sumO (t.parts.drop (i + 1)) = sumO t.parts := by
          rw [← congrArg sumO spl, sumO_app, tk, sumO_app]
          simp [sumO]
        have sL := sumO_le (t.parts.drop (i + 1))
        refine ⟨rfl, tyI ⟨_, rfl, d, dx3, _, rfl, hdx3, lkPa S Pp, _, rfl, _, rfl, ?_⟩⟩
        refine ⟨d, S, Pp, Ll, x, u, _, _, lv', _, rfl, dr3, hxu.keep (f3.nl dr1 hL1).tups, by omega, by omega, hL3, pl3, nLS, nLP, ?_, by omega, by omega, fun H5 v5 lv5 f5 dr5 hv5 hL5 pl5 => ?_⟩
        · rw [l4, List.length_drop]
          omega
        have hd5 := f5 _ _ nD1 nD2 nD3 hd3
        have nl5 := f5.nl dr3 hL3
        have nl6 := NL.at (o := .lst (rv ++ [v5])) hd5
        refine ⟨_, hd5, ?_, rv ++ [v5], lv5, ?_, upd_same, ?_, ?_, ?_, ?_⟩
        · rw [l5, List.length_take] at hlr
          exact Nat.lt_of_lt_of_le (show rv.length < 100000 by omega) (by decide)
        · intro b o h1 h2 h3 e
          rw [upd_ne (ne_of_none e hD)]
          exact f5 b o h1 h2 h3 (f3 b o h1 h2 h3 e)
        · rw [tk, foldP_snoc]
          exact paired_app (lna_all (nl5.trans nl6).tups pr3) (.cons (hv5.keep nl6.tups) .nil)
        · rw [upd_ne (Ne.symm nD3)]
          exact hL5
        · rw [tk, foldP_snoc]
          exact lna_all nl6.tups pl5
        · rw [tk, foldP_snoc]
          exact dr5.keep nl6 (fun xs e => by rw [upd_ne (Ne.symm nD1)]; exact e) (fun xs e => by rw [upd_ne (Ne.symm nD2)]; exact e)
      case hd =>
        rintro H3 ⟨rv, lv', f3, hd3, pr3, hL3, pl3, dr3⟩
        rw [hwl, List.take_of_length_le (Nat.le_refl _)] at pr3 pl3 dr3
        have nl3 := f3.nl dr1 hL1
        obtain ⟨⟨l1, l2, l3⟩, l4, l5⟩ := foldP_len ls (ts, ps) t.parts
        simp only at l1 l2 l3
        have hlr := paired_len pr3
        obtain ⟨dx3, hdx3⟩ := dr3.ob
        refine ⟨_, rfl, d, dx3, _, rfl, hdx3, lkA S Pp, _, rfl, .ref a, t, rfl, (ta.keep (Tups.of s1)).keep nl3.tups, hin, hth, fun H4 v4 s4 st4 => ?_⟩
        have dr4 := dr3.same s4
        refine ⟨_, rfl, d, S, Pp, D, v4, stOf t, _, _, rv, _, rfl, dr4, st4, s4 _ _ hd3, lna_all (Tups.of s4) pr3, nD1, nD2, by omega, by omega, by omega, fun H5 f5 dr5 => ?_⟩
        refine ⟨sz rfl, fun p5 hp5 => ?_⟩
        have k6 := same_new hp5 (.tup [.int (foldP t.parts ls (ts, ps)).2.2.1.length, .int 0])
        have fr5 : Fr S Pp H4 H5 := f5
        have nl5 := fr5.nl dr4
        rw [partS_fold hin hth] at q
        refine q _ _ lv' (((Fr3.of s1).trans f3).trans (((Fr3.of s4).trans (Fr3.of2 fr5)).trans (Fr3.of k6))) (dr5.same k6) ⟨p5, rfl, upd_same⟩ (k6 _ _ (f5 _ _ nLS nLP (s4 _ _ hL3))) (lna_all (((Tups.of s4).trans nl5.tups).trans (Tups.of k6)) pl3)
theorem ok_parts (F : Fun K "part" "Draft.part" s_Draft_part f fd) (G : Fun K "whole" "Draft.whole" s_Draft_whole g gd) (cl : Cls K CD) (mF : Meth K CD "part" f) (mG : Meth K CD "whole" g) (bF : Binds K fd ["self", "term", "lines"] []) (bG : Binds K gd ["self", "term", "line"] []) (T : Txt K mg aS a1 a2) (c_parts_of : C8.Cal P w K mg base 1 "parts_of" spPartsOf []) (c_station_of : C8.Cal P w K mg base 9 "station_of" (spStOf C) []) (m_Draft_add : C8.Met P w K mg base 1 CD "add" (spAdd CD C) []) (m_Draft_copies : C8.Met P w K mg base 8 CD "copies" (spCopies CD C) []) (c_outer_ins : ∀ n, C8.Cal P w K mg base (n + 1) "outer_ins" (spOuter n) []) : ∀ n, C8.Met P w K mg base (2 * n + 10) CD "part" (spPart CD C n) []
  | 0 => ⟨f, fd, _, [], cl, mF, ⟨by rintro vs H Q E ⟨d, S, Pp, Ll, v, t, ts, ps, lv, ls, rfl, _⟩; rfl, by
      rintro A outer s H args us vs Q E hr e0 hb r ⟨d, S, Pp, Ll, v, t, ts, ps, lv, ls, rfl, _, _, hn, _⟩
      have := t.nodes_pos
      omega⟩, bF, .nil⟩
  | n + 1 => ⟨f, fd, _, [], cl, mF, step_part F T c_parts_of c_station_of m_Draft_add (ok_parts F G cl mF mG bF bG T c_parts_of c_station_of m_Draft_add m_Draft_copies c_outer_ins n) ⟨g, gd, _, [], cl, mG, step_whole G m_Draft_copies (c_outer_ins n) (ok_parts F G cl mF mG bF bG T c_parts_of c_station_of m_Draft_add m_Draft_copies c_outer_ins n), bG, .nil⟩, bF, .nil⟩
end
end FY


set_option Elab.async false
set_option linter.all false
set_option maxRecDepth 100000
set_option maxHeartbeats 4000000
/-! dicts whose keys are tuples: comprehensions, update; enumerate of a tuple; a tuple taken no times or once -/
namespace FYR
open PySem PySem.Spec PyProof.Rows L2
/-! ### dict comprehensions -/
section
variable {X : Cx} {pins : List (Addr × Obj)} {σ : L2.St} {H : Hp} {s : Shared}
theorem dT_set {A : Around} {E : Value → Shared → Prop} {D b : Addr} {kvs : List (List Key × V)} {k : List Key} {z : V} {r : Value} {G : Unit → Shared → Prop} (hu : A.units < cLine) (I : Inv X pins σ H s)
    (hD : H D = some (.dT kvs)) (hb : H b = some (.tup (k.map kV))) (hl : kvs.length < sizeLine) (rz : RelV z r) (h : ∀ s', Inv X pins σ (upd H D (.dT (putK kvs k z))) s' → G () s') :
    wpAny (model X.prog X.w) A (dictSet D (.ref b) r) G E s := by
  obtain ⟨n1, nD, xs, rel, raw⟩ := dt_of I.hok hD
  have n2 := Paired.length rel
  have n3 := length_putK kvs k z
  refine wpAny_dictSet_heap (hsz := by omega) (show (tupleKind (mixKind X.prog X.w)).room A from hu) (key_of I.hok hb) raw fun h2 raw2 same => h _ ?_
  obtain ⟨q, es, ep, g1, g2, g3, g4, _, g5⟩ := raw2
  have keepT : ∀ c ys, H c = some (.tup ys) → upd H D (.dT (putK kvs k z)) c = some (.tup ys) := fun c ys ec => by
    rw [upd_ne (fun y => by rw [y, hD] at ec; cases ec)]
    exact ec
  exact d_write I (by rw [hD]; trivial) same ⟨q, g1⟩ ⟨by omega, nD, _, (rel.put k hb rz).keeps keepT, q, es, ep, g1, g2, g3, g4, g5⟩
end
/-- the reading: D is the new dict -/
def tDcT (wi : TI) (g : TG) (tt : TT) (tk tv : TE) (own : List Nat) : TE := fun σ H Q => wi σ H fun J H1 => ∀ D, H1 D = none →
  ∃ W : Nat → Nat → Hp → Prop, (∃ m, W 0 m (upd H1 D (.dT []))) ∧ ∀ i m H2, W i m H2 →
    (J.stop i H2 ∧ Q (.ref D) H2) ∨ (J.go i H2 ∧ ∃ Nx : Hp → Prop, (∀ H', Nx H' → ∃ m', m' < m ∧ W (i + 1) m' H') ∧
      ∀ x H', J.yld i H2 x H' → g x (wipe σ own) H' fun σ2 H3 => wipe σ2 own = wipe σ own ∧ tt σ2 H3 fun b H4 =>
        if b = true then tk σ2 H4 fun y H5 => tv σ2 H5 fun z H6 => ∃ kvs k a, y = .ref a ∧ H6 a = some (.tup (k.map kV)) ∧ H6 D = some (.dT kvs) ∧ kvs.length < sizeLine ∧ Nx (upd H6 D (.dT (putK kvs k z))) else Nx H4)
section
variable {X : Cx}
abbrev cvs (X : Cx) (scope : Scope) (n : Addr) : Env := compEnvC scope (cellsFrom (n + 1) scope.names (cloFrom X.env.cells scope.names [])) n X.env
theorem dcT_run {pins : List (Addr × Obj)} {s : Shared} {σ : L2.St} {H : Hp} {Q : VK} {kx vx tg iter : Expr} {ifs : List Expr} {scope : Scope} {own : List (Str × Nat)} {p1 p2 : Pos} {wi : TI} {g : TG} {tt : TT} {tk tv : TE} {sto : Option (Value → Sem Unit)} {Z : Value → Shared → Prop}
    (calm : X.calm = true) (nd : X.N.Nodup) (hu : X.A.units < cLine) (I : Inv X pins σ H s) (pi : PI X tg iter wi) (bo : BlkOk X.N X.env.scope scope own)
    (pG : ∀ (s' : Shared) (H' : Hp) (c : Addr) (l : List (Str × Addr)) (fs : List Addr), PG (X.blk s' H' scope (compEnvC scope l c X.env) fs) tg g)
    (pT : ∀ (s' : Shared) (H' : Hp) (c : Addr) (l : List (Str × Addr)) (fs : List Addr), PTs (X.blk s' H' scope (compEnvC scope l c X.env) fs) ifs tt)
    (pK : ∀ (s' : Shared) (H' : Hp) (c : Addr) (l : List (Str × Addr)) (fs : List Addr), PE (X.blk s' H' scope (compEnvC scope l c X.env) fs) kx tk)
    (pV : ∀ (s' : Shared) (H' : Hp) (c : Addr) (l : List (Str × Addr)) (fs : List Addr), PE (X.blk s' H' scope (compEnvC scope l c X.env) fs) vx tv)
    (nf : ∀ y, foldedSetIterable iter X.env y = pure y) (rd : tDcT wi g tt tk tv (own.map (·.2)) σ H Q)
    (last : ∀ D c s' m H', Inv X pins σ H' s' → Q (.ref D) H' → s'.heap.Ns c m → FpOk X pins H' c → compPost (model X.prog X.w) X.A X.xe sto Z (.ref D) c (.ok .next) s') :
    wpAny (model X.prog X.w) X.A (comprehension (.DictComp kx vx [⟨tg, iter, ifs, 0⟩] scope p1) scope X.env p2 newDict false (eval iter X.env) sto) Z X.xe s := by
  have clo : ∀ y ∈ scope.names, y.2 = .free → ∃ c, X.env.cells.lookup y.1 = some c := fun y my e => (bo.free y my e).elim (fun z => I.ok.has _ (.inl z)) fun z => I.ok.has _ (.inr z)
  refine wpAny_comprehension_free (use := sto) rfl nf (closure_ok clo) bo.kind (fun y my e => (bo.uniq y my).trans (by rw [e]))
    (thn (pi.run pins s σ H _ I rd) fun _ _ hx => thn hx fun _ sA hA => ?_)
  obtain ⟨it, fp, tn, J, HA, rfl, IA, TR, tA, fA, rA⟩ := hA
  refine wpAny_newObj_type (newEnv_comp ?_)
  obtain ⟨D, eD⟩ : ∃ D, D = sA.heap.objs.size := ⟨_, rfl⟩
  have freeD : HA D = none := by rw [eD]; exact IA.hok.fresh (Nat.le_refl _)
  obtain ⟨W, ⟨m0, w0⟩, steps⟩ := rA D freeD
  obtain ⟨sB, eB⟩ : ∃ sB : Shared, sB = { sA with heap := sA.heap.push { cls := .type "dict", data := .dict #[] } } := ⟨_, rfl⟩
  have hB : sB.heap = sA.heap.push { cls := .type "dict", data := .dict #[] } := by rw [eB]
  obtain ⟨HB, eHB⟩ : ∃ HB, HB = upd HA D (.dT []) := ⟨_, rfl⟩
  have IB : Inv X pins σ HB sB := by
    rw [eB, eHB]
    refine IA.laid (t' := sA.toks) (fun _ _ e => Heap.get?_push_of_some _ e) (Nat.le_of_eq eD.symm) ?_
    rw [eD]
    exact dt_empty sA.heap IA.big
  have lowA : ∀ b ∈ fp, b < sA.heap.objs.size := fun b mb => let ⟨o, e, _⟩ := TR.obj _ _ tA b mb; Heap.lt_size e
  have fB : ∀ b ∈ fp, FpOk X pins HB b ∧ b < sB.heap.objs.size := fun b mb => by
    have lt := lowA b mb
    refine ⟨⟨?_, (fA b mb).2⟩, ?_⟩
    · rw [eHB, upd_ne (fun z => by rw [z, eD] at lt; exact Nat.lt_irrefl _ lt)]
      exact (fA b mb).1
    · rw [hB, Heap.size_push]
      exact Nat.lt_succ_of_lt lt
  have tB : tn 0 sB.heap := TR.keep _ _ _ tA fun b _ o e => by rw [hB]; exact Heap.get?_push_of_some _ e
  have IC := block_start IB bo nd fB
  have eG := pG sB HB sB.heap.objs.size (cellsFrom (sB.heap.objs.size + 1) scope.names (cloFrom X.env.cells scope.names [])) fp
  have eT := pT sB HB sB.heap.objs.size (cellsFrom (sB.heap.objs.size + 1) scope.names (cloFrom X.env.cells scope.names [])) fp
  have eK := pK sB HB sB.heap.objs.size (cellsFrom (sB.heap.objs.size + 1) scope.names (cloFrom X.env.cells scope.names [])) fp
  have eV := pV sB HB sB.heap.objs.size (cellsFrom (sB.heap.objs.size + 1) scope.names (cloFrom X.env.cells scope.names [])) fp
  rw [← eD, ← eB]
  show codeAny _ _ (.compStart (.DictComp kx vx [⟨tg, iter, ifs, 0⟩] scope p1) 0 (.ref it) (.ref D) (cvs X scope sB.heap.objs.size)) (compPost (model X.prog X.w) X.A X.xe sto Z (.ref D) sB.heap.objs.size) { sB with heap := pushCells (sB.heap.push { cls := .type "dict", data := .dict #[] }) scope.names }
  have noneB : ∀ b ∈ fp, HB b = none := fun b mb => (fB b mb).1.1
  rw [← eHB] at w0
  obtain ⟨ce, ece⟩ : ∃ ce, ce = cvs X scope sB.heap.objs.size := ⟨_, rfl⟩
  have locC : ce.locals = sB.heap.objs.size := by rw [ece]; rfl
  change PG (X.blk sB HB scope (cvs X scope sB.heap.objs.size) fp) tg g at eG
  change PTs (X.blk sB HB scope (cvs X scope sB.heap.objs.size) fp) ifs tt at eT
  change PE (X.blk sB HB scope (cvs X scope sB.heap.objs.size) fp) kx tk at eK
  change PE (X.blk sB HB scope (cvs X scope sB.heap.objs.size) fp) vx tv at eV
  change Inv (X.blk sB HB scope (cvs X scope sB.heap.objs.size) fp) _ _ _ _ at IC
  rw [← ece] at eG eT eK eV IC ⊢
  clear ece
  obtain ⟨sC, eC⟩ : ∃ sC : Shared, sC = { sB with heap := pushCells (sB.heap.push { cls := .type "dict", data := .dict #[] }) scope.names } := ⟨_, rfl⟩
  rw [← eC] at IC ⊢
  have tC : tn 0 sC.heap := TR.keep _ _ _ tB fun b _ o e => by rw [eC]; exact pushCells_keeps _ _ _ _ (Heap.get?_push_of_some _ e)
  have okAt : ∀ {τ : L2.St} {HX : Hp} {sX : Shared}, Inv (X.blk sB HB scope ce fp) [] τ HX sX → (∀ b ∈ fp, HX b = none) → ∀ b ∈ fp, FpOk (X.blk sB HB scope ce fp) [] HX b := fun {τ HX sX} IX nX b mb =>
    ⟨nX b mb, (IX.ok.exf b mb).1, IX.ok.exfs b mb, .inl mb, fun x c e => (IX.ok.exf b mb).2 x c e, fun p hp => absurd (show p ∈ ([] : List (Addr × Obj)) ++ [] from hp) (by simp)⟩
  have run : codeAny (model X.prog X.w) X.A (.compLoop (.DictComp kx vx [⟨tg, iter, ifs, 0⟩] scope p1) 0 (.ref it) (.ref D) ce) (compPost (model X.prog X.w) X.A X.xe sto Z (.ref D) sB.heap.objs.size) sC := by
    refine compLoop_anyD (fun m sX => ∃ i HX, Inv (X.blk sB HB scope ce fp) [] (wipe σ (own.map (·.2))) HX sX ∧ tn i sX.heap ∧ (∀ b ∈ fp, HX b = none) ∧ W i m HX) ?_ m0 ⟨0, HB, IC, tC, noneB, w0⟩
    rintro m s1 ⟨i, H1, I1, t1, n1, w1⟩
    rcases steps i m H1 w1 with ⟨halt, qD⟩ | ⟨more, Nx, nxt, body⟩
    · refine thnF (TR.done (X.blk sB HB scope ce fp) rfl rfl rfl calm i [] s1 _ H1 (fun _ _ => False) I1 (okAt I1 n1) t1 halt) fun r s2 ⟨er, I2⟩ => ?_
      subst er
      have I3 : Inv X pins σ H1 s2 := IB.call' (ch := fp) I2.os I2.base I2.hok I2.bare fun b mb => ⟨(fB b mb).1.2.2.2.1, (fB b mb).1.2.1, (fB b mb).1.2.2.2.2.1, (fB b mb).1.2.2.2.2.2⟩
      have freeC : H1 ce.locals = none := I2.free
      obtain ⟨mm, nsC, _⟩ := I2.loc
      change s2.heap.Ns ce.locals mm at nsC
      rw [locC] at nsC freeC
      exact last D _ s2 mm H1 I3 qD nsC (IB.fpOk (Nat.le_refl _) freeC)
    · refine thnF (TR.item (X.blk sB HB scope ce fp) rfl rfl rfl calm i [] s1 _ H1 (fun _ _ => False) I1 (okAt I1 n1) t1 more) fun r s2 ⟨u, er, h2⟩ => ?_
      subst er
      refine thnF h2 fun _ s3 ⟨x, H3, I3, r3, y3, t3, n3⟩ => ?_
      refine thnF (eG.run _ s3 _ H3 x u _ (I3.pinned (okAt I3 n3) (TR.obj _ _ t3)) r3 (body x H3 y3)) fun _ s4 ⟨τ, H4, I4, wq, q4⟩ => ?_
      refine thnF (eT.run _ s4 τ H4 _ I4 q4) fun b s5 ⟨H5, I5, q5⟩ => ?_
      have close : ∀ {sX : Shared} {HX : Hp}, Inv (X.blk sB HB scope ce fp) ([] ++ pinsAt fp s3.heap) τ HX sX → Nx HX → ∃ m', m' < m ∧ ∃ j HY, Inv (X.blk sB HB scope ce fp) [] (wipe σ (own.map (·.2))) HY sX ∧ tn j sX.heap ∧ (∀ b ∈ fp, HY b = none) ∧ W j m' HY := fun {sX HX} IX nX => by
        obtain ⟨m', lt, wX⟩ := nxt HX nX
        have held : ∀ b ∈ fp, ∀ o, s3.heap.get? b = some o → sX.heap.get? b = some o ∧ HX b = none := fun b mb o e =>
          ⟨(IX.pin (b, o) (List.mem_append_right _ (List.mem_append_right _ (mem_pinsAt mb e)))).1, (IX.pin (b, o) (List.mem_append_right _ (List.mem_append_right _ (mem_pinsAt mb e)))).2.1⟩
        refine ⟨m', lt, i + 1, HX, (IX.unpinned (pins := [])).weak (by rw [← wq, wipe_length]) (fun j v e => ?_), TR.keep _ _ _ t3 fun b mb o e => (held b mb o e).1, fun b mb => ?_, wX⟩
        · exact (wipe_some (by rw [wq]; exact e)).1
        · exact let ⟨o, e, _⟩ := TR.obj _ _ t3 b mb; (held b mb o e).2
      cases b with
      | false =>
        simp only [Bool.false_eq_true, if_false] at q5 ⊢
        exact close I5 q5
      | true =>
        simp only [if_true] at q5 ⊢
        refine thnF (eK.run _ s5 τ H5 _ I5 q5) fun _ s6 ⟨yk, H6, I6, r6, q6⟩ => ?_
        refine thnF (eV.run _ s6 τ H6 _ I6 q6) fun _ s7 ⟨yv, H7, I7, r7, kvs, k, a, ek, ha, hD7, lt7, nx⟩ => ?_
        subst ek
        cases r6
        exact dT_set (X := X.blk sB HB scope ce fp) hu I7 hD7 ha lt7 r7 fun s8 I8 => close I8 nx
  exact codeAny_compStart_dict run (TR.self X.A 0 _ _ _ tC run)
theorem pe_dcT {kx vx tg iter : Expr} {ifs : List Expr} {scope : Scope} {own : List (Str × Nat)} {p1 : Pos} {wi : TI} {g : TG} {tt : TT} {tk tv : TE}
    (calm : X.calm = true) (nd : X.N.Nodup) (hu : X.A.units < cLine) (pi : PI X tg iter wi) (bo : BlkOk X.N X.env.scope scope own)
    (pG : ∀ (s' : Shared) (H' : Hp) (c : Addr) (l : List (Str × Addr)) (fs : List Addr), PG (X.blk s' H' scope (compEnvC scope l c X.env) fs) tg g)
    (pT : ∀ (s' : Shared) (H' : Hp) (c : Addr) (l : List (Str × Addr)) (fs : List Addr), PTs (X.blk s' H' scope (compEnvC scope l c X.env) fs) ifs tt)
    (pK : ∀ (s' : Shared) (H' : Hp) (c : Addr) (l : List (Str × Addr)) (fs : List Addr), PE (X.blk s' H' scope (compEnvC scope l c X.env) fs) kx tk)
    (pV : ∀ (s' : Shared) (H' : Hp) (c : Addr) (l : List (Str × Addr)) (fs : List Addr), PE (X.blk s' H' scope (compEnvC scope l c X.env) fs) vx tv)
    (nf : ∀ y, foldedSetIterable iter X.env y = pure y := by intro _; rfl) : PE X (.DictComp kx vx [⟨tg, iter, ifs, 0⟩] scope p1) (tDcT wi g tt tk tv (own.map (·.2))) :=
  ⟨fun pins s σ H Q I rd => by
    rw [arm_eval_DictComp]
    refine dcT_run calm nd hu I pi bo pG pT pK pV nf rd fun D c s' m H' I' q ns f => ⟨m, ns, fun h2 sb => ?_⟩
    obtain ⟨g0, g1, g2, g3, g4, g5⟩ := f
    exact ⟨.ref D, H', I'.turned (t' := s'.toks) (fun b o nb e => (sb.2 b nb).trans e) g0 g1 g3 g4 g5, rfl, q⟩⟩
end
end FYR

set_option Elab.async false
set_option linter.all false
set_option maxRecDepth 100000
set_option maxHeartbeats 4000000
/-! enumerate of a tuple; dict.update with tuples as keys; a tuple taken no times or once -/
namespace FYR
open PySem PySem.Spec PyProof.Rows L2
/-! ### enumerate(tuple) -/
theorem enumNew1 {v : Value} {o : Obj} {G : Heap → Prop} (B : Begins v o G) :
    Meets (Builtin.«enumerate.__new__» ⟨[.type "enumerate", v], []⟩) (fun _ R s => G s.heap ∧
      R (.ok (.ret (.ref (s.heap.push o).objs.size))) { s with heap := (s.heap.push o).push { cls := .type "enumerate", data := .fields #[.none, .bool false, .ref s.heap.objs.size, rawInt 0, .none, .none] } }) :=
  .of_wp fun prog w A R s hh => by
    obtain ⟨hp, g, d, tk, os⟩ := s
    obtain ⟨hG, hR⟩ := hh
    have hsub := sub_enumerate
    have qi : ∀ {A1 : Around} {E1 : Value → Shared → Prop} {Z : Value → Shared → Prop}, Z (.ref hp.objs.size) ⟨hp.push o, g, d, tk, os⟩ → wpAny (model prog w) A1 (pyIter v) Z E1 ⟨hp, g, d, tk, os⟩ := fun z => B.iter prog w _ _ ⟨hp, g, d, tk, os⟩ _ hG z
    wp_walk using qi
    refine wpAny_stack_any fun stk => wpAny_pure ?_
    split
    · rename_i c0 _ _ _ _ _
      cases (c0 == Value.type "enumerate") <;> (wp_walk using qi; exact ⟨_, rfl, hR⟩)
    · wp_walk using qi
      exact ⟨_, rfl, hR⟩
theorem enumCall1 {prog : Program} {w : World} {A : Around} {E : Value → Shared → Prop} {s : Shared} {v : Value} {o : Obj} {G : Heap → Prop} {Q : Value → Shared → Prop} (B : Begins v o G) (hG : G s.heap)
    (h : ∀ h', IsEnum h' (s.heap.objs.size + 1) s.heap.objs.size 0 .none → h'.get? s.heap.objs.size = some o → (∀ b o, s.heap.get? b = some o → h'.get? b = some o) → Q (.ref (s.heap.objs.size + 1)) { s with heap := h' }) :
    wpAny (model prog w) A (call (.type "enumerate") [v]) Q E s := by
  refine callType_new F.called_enumerate (by decide) (F.typeCall_enumerate_1 _) (F.newCall_enumerate_1 _) (fun ob => F.args_object_init_2 ob _) F.entry_enumerate_new (enumNew1 B) ⟨hG, ?_⟩
  have one : (s.heap.push o).objs.size = s.heap.objs.size + 1 := Heap.size_push ..
  show _ ∧ _
  rw [one]
  have isE : IsEnum ((s.heap.push o).push { cls := .type "enumerate", data := .fields #[.none, .bool false, .ref s.heap.objs.size, rawInt 0, .none, .none] }) (s.heap.objs.size + 1) s.heap.objs.size 0 .none := by
    have z := Heap.get?_push_size (s.heap.push o) (o := { cls := .type "enumerate", data := .fields #[.none, .bool false, .ref s.heap.objs.size, rawInt 0, .none, .none] }) rfl
    rw [one] at z
    exact z
  exact ⟨⟨_, isE, rfl⟩, h _ isE (Heap.get?_push_of_some _ (Heap.get?_push_size _ B.free)) fun b q x => Heap.get?_push_of_some _ (Heap.get?_push_of_some _ x)⟩
def IteT (K : PySem.W.Frag) (a : Addr) : It :=
  ⟨fun i H => ∃ xs x, SqT K H a xs ∧ xs[i]? = some x,
    fun i H v H' => ∃ T x, v = .ref T ∧ H T = none ∧ H' = upd H T (.tup [.int (i : Nat), x]) ∧ ∀ xs, SqT K H a xs → xs[i]? = some x,
    fun i H => ∃ xs, SqT K H a xs ∧ xs.length = i⟩
theorem turn_enumT {P : Program} {w : World} {K : PySem.W.Frag} {elts : List Expr} {kk : Nat} {tpos : Pos} (a e it : Addr) :
    Turn P w K (.Tuple elts kk tpos) (IteT K a) [e, it] e (fun i h => (∃ old, IsEnum h e it ((i : Nat) : Int) old) ∧ h.IsTupleIter it a i ∧ e ≠ it ∧ a ≠ it ∧ a ≠ e) where
  mem := by simp
  obj := fun i h st c hc => by
    obtain ⟨⟨old, he⟩, ⟨o, ho, _, hd⟩, _⟩ := st
    have e' : c = e ∨ c = it := by simpa using hc
    rcases e' with q | q
    · rw [q]; exact ⟨_, he, fun v q => nomatch q⟩
    · rw [q]; exact ⟨o, ho, fun v q => by rw [hd] at q; cases q⟩
  keep := fun i h h' st k => by
    obtain ⟨⟨old, he⟩, hit, n1, n2, n3⟩ := st
    exact ⟨⟨old, k e (by simp) _ he⟩, hit.at fun o q => k it (by simp) o q, n1, n2, n3⟩
  item := by
    intro X hP hw hK hc i pins s σ H E I hf st hg
    subst hP hw hK
    obtain ⟨⟨old, he⟩, hit, n1, n2, n3⟩ := st
    obtain ⟨xs, x, hq, hx⟩ := hg
    obtain ⟨its, rv, tp, hz⟩ := I.tuple hq
    obtain ⟨u, hu, ru⟩ := rv.get hx
    have hi : i < its.toArray.size := by
      have := (List.getElem?_eq_some_iff.mp hu).1
      simpa using this
    have W := WalksT.enumerateD (prog := X.prog) (w := X.w) (A := X.A) (Draws.tuple (show X.A.in1.handled = none from I.ok.hd hc) it a n2 its.toArray) e n1 (by simp [n1, Ne.symm n3]) (by simp)
    refine W.item i s _ _ hi ⟨⟨old, he⟩, hit, tp⟩ fun T vals h' tk hp hT ht mid hk => ?_
    obtain ⟨tt, y, hy, rfl⟩ := hp
    have ey : y = u := by
      have e1 : its[i]? = some y := by simpa using hy
      rw [hu] at e1
      exact (Option.some.inj e1).symm
    subst ey
    refine ⟨_, rfl, W.go elts kk tpos i T { s with heap := h', toks := tk } _ _ mid fun h'' st'' hk2 => ?_⟩
    obtain ⟨oT, eT, cT, nT, dT⟩ := ht
    have hT2 : h''.get? T = some oT := hk2 _ _ (W.apart _ _ _ mid) eT
    have new : ObjOk X.prog X.w (upd H T (.tup [.int (i : Nat), x])) h'' T (.tup [.int (i : Nat), x]) :=
      ⟨by show 2 ≤ sizeLine; decide, [_, _], .cons ⟨_, rfl⟩ (.cons ru .nil), ⟨_, hT2, cT, nT, dT⟩⟩
    have I1 : Inv X pins σ (upd H T (.tup [.int (i : Nat), x])) { s with heap := h'', toks := tk } :=
      I.turnedNew (t' := tk) (ch := [e, it]) (fun c o hb q => hk2 c o hb (hk c o hb q)) hf hT new
    refine ⟨.ref T, _, I1, rfl, ⟨T, x, rfl, I.hok.fresh hT, rfl, fun ys hys => ?_⟩, ⟨st''.1, st''.2.1, n1, n2, n3⟩, fun b hb => ?_⟩
    · obtain ⟨its2, rv2, tp2, _⟩ := I.tuple hys
      obtain ⟨o1, g1, _, m1, d1⟩ := tp
      obtain ⟨o2, g2, _, m2, d2⟩ := tp2
      rw [g1] at g2
      cases g2
      rw [d1] at d2
      have e3 : its = its2 := by
        have := (Data.seq.inj d2).1
        simpa using this
      subst e3
      rw [rv.inj rv2] at hx
      exact hx
    · have hlt : b < s.heap.objs.size := by
        have e' : b = e ∨ b = it := by simpa using hb
        rcases e' with q | q
        · rw [q]; exact Heap.lt_size he
        · rw [q]; obtain ⟨o, ho, _⟩ := hit; exact Heap.lt_size ho
      rw [upd_ne (Nat.ne_of_lt (Nat.lt_of_lt_of_le hlt hT))]
      exact (hf b hb).1
  done := by
    intro X hP hw hK hc i pins s σ H E I hf st hg
    subst hP hw hK
    obtain ⟨⟨old, he⟩, hit, n1, n2, n3⟩ := st
    obtain ⟨xs, hq, hl⟩ := hg
    obtain ⟨its, rv, tp, hz⟩ := I.tuple hq
    have W := WalksT.enumerateD (prog := X.prog) (w := X.w) (A := X.A) (Draws.tuple (show X.A.in1.handled = none from I.ok.hd hc) it a n2 its.toArray) e n1 (by simp [n1, Ne.symm n3]) (by simp)
    have hn : its.toArray.size = i := by
      rw [List.size_toArray, ← rv.length]
      exact hl
    subst hn
    exact W.done s _ _ ⟨⟨old, he⟩, hit, tp⟩ fun h' tk hk => ⟨rfl, I.turnedL (t' := tk) (ch := [e, it]) (fun c o hb q => hk c o hb q) hf⟩
  self := fun A i s Q E st h => wpAny_pyIter_enum st.1.choose_spec h
def iEnumT (K : PySem.W.Frag) (ta : L2.TA) : TI := fun σ H R => ta σ H fun vs H1 => ∃ a xs, vs = [.ref a] ∧ SqT K H1 a xs ∧ R (IteT K a) H1
theorem pi_enumT {X : Cx} (K : PySem.W.Frag) (hK : X.K = K) {e : Expr} {ta : L2.TA} {p pos tpos : Pos} {elts : List Expr} {kk : Nat} (hg : Gl X "enumerate") (hm : X.mg "enumerate" = none) (ha : PA X [e] ta) (hs : starEach [e] X.env = [(false, eval e X.env)] := by rfl) :
    PI X (.Tuple elts kk tpos) (.Call (.Name "enumerate" p) [e] [] pos) (iEnumT K ta) := by
  subst hK
  refine ⟨fun pins s σ H R I h => ?_⟩
  refine Call_ (ld_blt I hg hm boot_enumerate (PyProof.Rows.callWith_type1 (thn (ha.run pos pins s σ H _ I h) fun us s1 ⟨vs, H1, I1, r1, q1⟩ => ?_) hs rfl))
  obtain ⟨a, xs, rfl, hq, q⟩ := q1
  obtain ⟨u, rfl, ru⟩ := r1.one
  cases ru
  obtain ⟨its, rv, tp, hz⟩ := I1.tuple hq
  have hlt : a < s1.heap.objs.size := by
    obtain ⟨o, ho, _⟩ := id tp
    exact Heap.lt_size ho
  refine enumCall1 (begins_tuple a its.toArray) tp fun h' he hit hk => wpAny_pyIter_enum he ?_
  have I2 : Inv X pins σ H1 { s1 with heap := h' } := I1.kept (t' := s1.toks) hk
  refine ⟨s1.heap.objs.size + 1, [s1.heap.objs.size + 1, s1.heap.objs.size], _, _, H1, rfl, I2, turn_enumT a (s1.heap.objs.size + 1) s1.heap.objs.size, ⟨⟨.none, he⟩, ⟨_, hit, rfl, rfl⟩, Nat.succ_ne_self _, Nat.ne_of_lt hlt, Nat.ne_of_lt (Nat.lt_succ_of_lt hlt)⟩, fun c hc => ?_, q⟩
  have hle : s1.heap.objs.size ≤ c := by
    have e' : c = s1.heap.objs.size + 1 ∨ c = s1.heap.objs.size := by simpa using hc
    rcases e' with z | z
    · rw [z]; exact Nat.le_add_right _ _
    · rw [z]; exact Nat.le_refl _
  exact I1.fpOk hle (I1.hok.fresh hle)
theorem walk_enumT {K : PySem.W.Frag} {a : Addr} {xs : List V} : Walk (IteT K a) xs.length (fun H => SqT K H a xs) (YPair (fun i => some (.int (i : Nat))) (fun i => xs[i]?)) :=
  ⟨fun i H hi h => ⟨xs, xs[i], h, List.getElem?_eq_getElem hi⟩, fun H h => ⟨xs, h, rfl⟩, fun i H v H' hi h ⟨T, x, ev, hT, eH, hx⟩ => ⟨T, _, x, ev, hT, eH, rfl, hx xs h⟩⟩
/-! ### d.update(d2), tuples as keys -/
theorem KT.putAll {H : Hp} : ∀ {more : List (List Key × V)} {ys : List (List Key × Addr × Value)}, KT H more ys → ∀ {kvs : List (List Key × V)} {xs : List (List Key × Addr × Value)}, KT H kvs xs → KT H (more.foldl (fun acc p => putK acc p.1 p.2) kvs) (storedAllH xs ys)
  | _, _, .nil, _, _, r => r
  | _, _, .cons (a := p) (b := q) hq t, _, _, r => by
    obtain ⟨e1, e2, e3⟩ := hq
    have z := r.put p.1 (b := q.2.1) (y := p.2) (u := q.2.2) e2 e3
    have y := KT.putAll t z
    show KT H (List.foldl _ (putK _ p.1 p.2) _) (storedAllH (storedH _ q.1 q.2.1 q.2.2) _)
    rw [← e1]
    exact y
theorem putAll_len : ∀ (more kvs : List (List Key × V)), (more.foldl (fun acc p => putK acc p.1 p.2) kvs).length ≤ kvs.length + more.length
  | [], kvs => Nat.le_refl _
  | p :: r, kvs => by
    have h1 := putAll_len r (putK kvs p.1 p.2)
    have h2 := length_putK kvs p.1 p.2
    simp only [List.foldl_cons, List.length_cons]
    omega
def rUpdT : V → List V → Hp → VK → Prop := fun x vs H Q => ∃ (d o : Addr) (kvs more : List (List Key × V)), x = .ref d ∧ vs = [.ref o] ∧ d ≠ o ∧ H d = some (.dT kvs) ∧ H o = some (.dT more) ∧ (kvs ≠ [] ∨ more.length ≤ 1) ∧ kvs.length + more.length ≤ 1000 ∧
  Q .non (upd H d (.dT (more.foldl (fun acc p => putK acc p.1 p.2) kvs)))
theorem mt_updT {X : Cx} (hu : X.A.units + 1 < cLine) : MtR X "dict.update" rUpdT := by
  intro pins s σ H x vs v us Q I rx rv h
  obtain ⟨d, o, kvs, more, rfl, rfl, hne, hd, ho, hap, hl, q⟩ := h
  cases rx
  obtain ⟨u, rfl, ru⟩ := rv.one
  cases ru
  obtain ⟨z1, nd, xs, rel, raw⟩ := dt_of I.hok hd
  obtain ⟨z2, no, ys, rel2, raw2⟩ := dt_of I.hok ho
  have l1 := Paired.length rel
  have l2 := Paired.length rel2
  have hsl := sizeLine_eq
  have ap : xs ≠ [] ∨ ((∀ y ∈ ys, s.TypeIs (.ref y.2.1) "tuple") ∧ (ys.map fun y => (tupleKind (mixKind X.prog X.w)).hash y.1).Nodup) := by
    rcases hap with h | h
    · exact .inl fun e => h (List.eq_nil_of_length_eq_zero (by rw [l1, e]; rfl))
    · refine .inr ?_
      cases rel2 with
      | nil => exact ⟨(fun y hy => nomatch hy), List.nodup_nil⟩
      | cons hq t =>
        cases t with
        | nil =>
          refine ⟨fun y hy => ?_, by simp⟩
          rw [List.mem_singleton.mp hy]
          obtain ⟨_, its, _, oo, g1, g2, _⟩ := I.hok _ _ hq.2.1
          exact ⟨oo, g1, g2⟩
        | cons _ _ => simp at h
  refine call_update_dictH (knd := tupleKind (mixKind X.prog X.w)) (tupleKind_room_in1 hu) hne no raw raw2 ap (by omega) fun h' raw' _ same => ?_
  obtain ⟨oo, es, ep, g1, g2, g3, g4, _, g5⟩ := raw'
  have pl := putAll_len more kvs
  have keepT : ∀ c zs, H c = some (.tup zs) → upd H d (.dT (more.foldl (fun acc p => putK acc p.1 p.2) kvs)) c = some (.tup zs) := fun c zs ec => by
    rw [upd_ne (fun y => by rw [y, hd] at ec; cases ec)]
    exact ec
  exact ⟨.non, _, d_write (ob := .dT (more.foldl (fun acc p => putK acc p.1 p.2) kvs)) I (by rw [hd]; trivial) same ⟨oo, g1⟩ ⟨by omega, nd, _, (KT.putAll rel2 rel).keeps keepT, oo, es, ep, g1, g2, g3, g4, g5⟩, rfl, q⟩
end FYR

set_option Elab.async false
set_option linter.all false
set_option maxRecDepth 100000
set_option maxHeartbeats 4000000
/-! != by an own ==, of instances and of tuples of them; a tuple times 0 and 1 -/
namespace FYR
open PySem PySem.Spec PyProof.Rows L2
open AutoSeq1 (wpAny_loadPart')
/-! ### tuple != tuple, all items equal -/
section
variable {prog : Program} {w : World} {A : Around} {R : Result → Shared → Prop}
theorem tup_ne (l b : Addr) (xs ys : Array Value) (n m : Nat) (d1 d2 : Option Addr) (s1 s2 : Array (Option Value)) (same : xs.size = ys.size) (G : Nat → Shared → Prop)
    (one : ∀ i (h1 : i < xs.size) (h2 : i < ys.size) s, G i s → wpAny (model prog w) A.in1 (eqBool xs[i] ys[i]) (fun r s' => r = true ∧ G (i + 1) s') (fun e s' => R (.error e) s') s)
    (fin : ∀ s, G xs.size s → R (.ok (.ret (.bool false))) s) {s : Shared} (hl : s.heap.get? l = some { cls := .type "tuple", dict := d1, data := .seq xs n, slots := s1 }) (hb : s.heap.get? b = some { cls := .type "tuple", dict := d2, data := .seq ys m, slots := s2 }) (g0 : G 0 s) :
    wpAny (model prog w) A.in1 (Builtin.«tuple.__ne__» ⟨[.ref l, .ref b], []⟩) (GQ.FinOf prog w A R) (fun e s' => R (.error e) s') s := by
  have sub2 := AutoSeq1.sub_tuple_tuple
  have zl : (xs.toList.zip ys.toList).length = xs.size := by simp [same]
  have g00 := g0
  obtain ⟨hp, gg, dd, tk, os⟩ := s
  wp_walk using wpAny_loadPart' hl, wpAny_loadPart' hb, wpAny_forIn_list _ (fun rest acc s' => acc.1 = none ∧ ∃ i, rest = (xs.toList.zip ys.toList).drop i ∧ i ≤ xs.size ∧ G i s') _
  case turn =>
    rintro ⟨u, v⟩ rest acc s' ⟨ea, i, er, le, gi⟩
    have lt : i < (xs.toList.zip ys.toList).length := Nat.lt_of_not_le fun q => by rw [List.drop_of_length_le q] at er; cases er
    have h1 : i < xs.size := by rw [← zl]; exact lt
    have h2 : i < ys.size := by rw [← same]; exact h1
    rw [List.drop_eq_getElem_cons lt] at er
    injection er with euv erest
    obtain ⟨rfl, rfl⟩ : u = xs[i] ∧ v = ys[i] := ⟨by simpa using congrArg Prod.fst euv, by simpa using congrArg Prod.snd euv⟩
    refine wpAny_bind (wpAny_mono (one i h1 h2 s' gi) (fun r s2 q2 => ?_) fun _ _ x => x)
    obtain ⟨rfl, q2⟩ := q2
    wp_walk
    exact ⟨rfl, i + 1, erest, h1, q2⟩
  case fin =>
    rintro ⟨a1, a2⟩ s' ⟨ea, i, er, le, gi⟩
    simp only at ea
    subst ea
    have ge : xs.size ≤ i := by
      rw [← zl]
      exact Nat.le_of_not_lt fun q => by rw [List.drop_eq_getElem_cons q] at er; cases er
    obtain rfl : i = xs.size := by omega
    have z := fin s' gi
    wp_walk
    simpa [Builtin.Tuple.tupleCompareSizes, same] using z
  case h => exact ⟨rfl, 0, rfl, Nat.zero_le _, g00⟩
end
def rNeG (D : Eqv) : R2 := fun x y H Q => D x y H ∧ ∀ H', Ext H H' → Q (.bl false) H'
section
variable {X : Cx} {n : Nat} {D : Eqv}
theorem op_neTupG (mon : Mon D) (eqs : EqG X n D) (hr : Room (n + 1) X.A) : OpR X (compareOp .NotEq) (rNeG (DTup X.K D)) := by
  intro pins s σ H x y v u Q I rx ry h
  obtain ⟨⟨a, b, xs, ys, rfl, rfl, ha, hb, p⟩, q⟩ := h
  cases rx
  cases ry
  obtain ⟨its, r, e, z⟩ := I.tuple ha
  obtain ⟨its2, r2, e2, z2⟩ := I.tuple hb
  have sb : Sub X (n + 1) X.A := ⟨hr, rfl⟩
  have hsz : its.toArray.size = its2.toArray.size := by rw [List.size_toArray, List.size_toArray, ← r.length, ← r2.length]; exact p.1
  obtain ⟨⟨c1, d1, dt1, s1⟩, g1, k1, n1, m1⟩ := e
  obtain ⟨⟨c2, d2, dt2, s2⟩, g2, k2, n2, m2⟩ := e2
  simp only at k1 m1 k2 m2
  subst k1 m1 k2 m2
  show wpAny (model X.prog X.w) X.A (richCompare .NotEq (.ref a) (.ref b)) (EP X pins σ Q) X.xe s
  refine wpAny_richCompare_same_room (op := .NotEq) ⟨_, g1, rfl⟩ ⟨_, g2, rfl⟩ F.slot_tuple_ne (GQ.call_here F.slot_tuple_ne ⟨_, g1, rfl⟩ F.entry_tuple_ne (F.args_tuple_ne_2 _ _) ?_) hr.units0
  exact tup_ne (R := wants (fun v s' => v ≠ .notImplemented ∧ EP X pins σ Q v s') X.xe) a b its.toArray its2.toArray n1 n2 d1 d2 s1 s2 hsz (fun _ s' => LoopI X pins σ H s') (fun i h1 h2 s' q => turnG mon eqs sb p r r2 i h1 h2 s' q)
    (fun s' ⟨H', I', ex⟩ => ⟨(fun z => nomatch z), .bl false, H', I', rfl, q H' ex⟩) g1 g2 ⟨H, I, Ext.rfl'⟩
end
/-! ### instance != instance by the class's own == -/
section
variable {M : Model} {prog : Program} {w : World} {A : Around} {E : Value → Shared → Prop} {s : Shared} {K : PySem.W.Frag} {x C : Addr} {ox : Obj} {od : Option Obj}
theorem bound_ne {args : List Value} {Q : Option Value → Shared → Prop} (kin : K.In s.heap) (ia : PySem.W.InstAt s.heap x ox C od) (hs : PySem.W.findIn K (.ref C) "__ne__" = some (some (.builtin "object.__ne__")))
    (h : wpAny M A (call (.builtin "object.__ne__") (.ref x :: args)) (fun v => Q (some v)) E s) : wpAny M A (callSpecialIfBound? (.ref x) "__ne__" args) Q E s := by
  simp only [callSpecialIfBound?, bindSpecialIfBound?]
  have tail : wpAny M A (call (.builtin "object.__ne__") ([.ref x] ++ args) >>= fun v => pure (some v)) Q E s := wpAny_bind (wpAny_mono h (fun v s' z => wpAny_pure z) fun _ _ z => z)
  refine wpAny_holding (wpAny_bind (wpAny_bind (wpAny_bind (ia.type.here ((PySem.W.looks_findIn kin hs).here ?_)))))
  refine wpAny_bind (wpAny_askSetting (wpAny_ite ?_))
  have bnd := F.cmp_object.ne.bind (.ref x)
  split
  · exact wpAny_bind (wpAny_of_eq bnd (wpAny_pure (by exact tail)))
  · exact wpAny_tryCatch (wpAny_bind (wpAny_of_eq bnd (wpAny_pure (by exact tail))))
theorem entry_ne {y f : Addr} {Q : Fin → Shared → Prop} (hu : A.units < cLine) (kin : K.In s.heap) (ia : PySem.W.InstAt s.heap x ox C od) (hs : PySem.W.findIn K (.ref C) "__eq__" = some (some (.ref f))) (hf : PySem.W.isFn K (.ref f) = true)
    (h : wpAny M A (call (.ref f) [.ref x, .ref y]) (fun v s' => v = .bool true ∧ Q (.done (.ret (.bool false))) s') E s) : wpAny M A (Builtin.«object.__ne__» ⟨[.ref x, .ref y], []⟩) Q E s := by
  unfold Builtin.«object.__ne__»
  repeat (first
    | with_reducible refine wpAny_cRoomFor hu ?_
    | (refine wpAny_bind (m := callSpecialIfBound? (.ref x) (Str.ofString "__eq__") [.ref y]) (PySem.W.ifBound_K kin ia hs hf (wpAny_mono h (fun r s' z => by
          obtain ⟨rfl, q⟩ := z
          repeat (first | exact q | exact wpAny_pure q | exact wpAny_truthy_bool q | (refine wpAny_bind (m := truthy (.bool _)) (wpAny_truthy_bool ?_)) | wp_step)) fun _ _ z => z)))
    | wp_step)
end
section
variable {X : Cx} {n : Nat} {CX : CXT} {C f : Addr} {fd : FuncData} {ps : List Str} {Rl : Addr → Addr → Hp → Prop} {E : XK}
theorem op_neIns (Fn : FnOk X.prog X.w X.K X.mg X.base CX n f fd ps (spEq Rl)) (hs : PySem.W.findIn X.K (.ref C) "__eq__" = some (some (.ref f))) (hn : PySem.W.findIn X.K (.ref C) "__ne__" = some (some (.builtin "object.__ne__")))
    (hm : PySem.W.mroIn X.K C (.type "object") = some true) (hf : PySem.W.isFn X.K (.ref f) = true) (hb : Binds X.K fd ps []) (hx : Passes CX X E) (hr : Room (n + 1) X.A) : OpR X (compareOp .NotEq) (rNeG (DIns C Rl)) := by
  intro pins s σ H x y v u Q I rx ry h
  obtain ⟨⟨a, b, dx, dy, fs, gs, rfl, rfl, ha, hb', hR⟩, q⟩ := h
  cases rx
  cases ry
  obtain ⟨mA, J, _⟩ := ins_get I.hok ha
  obtain ⟨mB, J2, _⟩ := ins_get I.hok hb'
  obtain ⟨od, J, _⟩ := J.look
  obtain ⟨od2, J2, _⟩ := J2.look
  have hsp : spEq Rl [.ref a, .ref b] H (fun v H' => v = .bl true ∧ Ext H H') E := ⟨a, b, rfl, hR, fun H' e => ⟨rfl, e⟩⟩
  have len := Fn.len _ _ _ _ hsp
  have e1 : Env0 X.prog X.w X.K X.mg X.base X.A.in1 X.stack s H := I.env0.in1
  have run : wpAny (model X.prog X.w) X.A.in1 (call (.ref f) [.ref a, .ref b]) (fun v s' => v = .bool true ∧ ∃ H', Inv X pins σ H' s' ∧ Ext H H') X.xe s := by
    refine wpAny_call (codeAny_mono (Fn.run X.A.in1 X.stack s H ⟨[.ref a, .ref b], []⟩ [.ref a, .ref b] [.ref a, .ref b] _ E hr.in1 e1 (by
      have z := hb s [.ref a, .ref b] I.kIn (by simpa using len)
      simpa using z) (.cons rfl (.cons rfl .nil)) hsp) fun r s' hq => ?_)
    cases r with
    | error e => exact hx pins σ H s e s' I hq
    | ok fl =>
      cases fl with
      | ret w =>
        obtain ⟨z, H', I', rz, ez, ex⟩ := I.after hq
        subst ez
        cases rz
        exact ⟨rfl, H', I', ex⟩
      | next => exact False.elim hq
      | brk => exact False.elim hq
      | cont => exact False.elim hq
  have u0 : X.A.units < cLine := hr.units0
  have u1 : X.A.in1.units < cLine := hr.in1.units0
  have ne1 : wpAny (model X.prog X.w) X.A (call (.builtin "object.__ne__") [.ref a, .ref b]) (fun v s' => v = .bool false ∧ ∃ H', Inv X pins σ H' s' ∧ Ext H H') X.xe s := by
    refine wpAny_call (codeAny_call_builtin F.cmp_object.ne.plain F.cmpEntry_ne (PySem.W.check_slot F.cmpKind_ne F.cmpSplit_ne (J.type.andThen (PySem.W.looks_mroIn I.kIn hm)) (F.cmpArgs_ne _ _) ?_))
    refine entry_ne (A := X.A.in1) u1 I.kIn J hs hf (wpAny_mono run (fun v s' z => ?_) fun _ _ z => z)
    exact ⟨z.1, rfl, z.2⟩
  have try1 : wpAny (model X.prog X.w) X.A (tryCompare (.ref a) "__ne__" (.ref b)) (fun r s' => r = some (.bool false) ∧ ∃ H', Inv X pins σ H' s' ∧ Ext H H') X.xe s := by
    unfold tryCompare
    refine wpAny_bind (bound_ne I.kIn J hn (wpAny_mono ne1 (fun v s' z => ?_) fun _ _ z => z))
    obtain ⟨rfl, z⟩ := z
    exact wpAny_pure ⟨rfl, z⟩
  show wpAny (model X.prog X.w) X.A (richCompare .NotEq (.ref a) (.ref b)) (EP X pins σ Q) X.xe s
  unfold richCompare
  simp only [oneThing_ref]
  refine wpAny_holding (wpAny_bind (wpAny_cRoomFor u0 ?_))
  refine wpAny_bind (J.type.here (wpAny_bind (J2.type.here ?_)))
  split
  · rename_i z
    simp at z
  · rw [cmpInfo_NotEq]
    dsimp only
    refine wpAny_bind (wpAny_pure ?_)
    simp only [Bool.false_eq_true, if_false]
    refine wpAny_bind (wpAny_mono try1 (fun r s' z => ?_) fun _ _ z => z)
    obtain ⟨rfl, H', I', ex⟩ := z
    exact wpAny_pure ⟨.bl false, H', I', rfl, q H' ex⟩
end
/-! ### a tuple times 0 or 1 -/
theorem tup_mul1 (l : Addr) (xs : Array Value) (n : Nat) (dd : Option Addr) (sl : Array (Option Value)) (u : Tok) :
    Meets (Builtin.«tuple.__mul__» ⟨[.ref l, .int 1 u], []⟩) (fun _ R s => s.heap.get? l = some { cls := .type "tuple", dict := dd, data := .seq xs n, slots := sl } ∧ R (.ok (.ret (Value.ref l))) s) :=
  .of_wp fun prog w A R s h => by
    obtain ⟨hp, g, d, tk, os⟩ := s
    obtain ⟨hl, h⟩ := h
    have f1 := AutoSeq1.idx_int
    have c1 : (xs.isEmpty || (1 : Int) == 1) = true := by simp
    wp_walk using wpAny_loadPart' hl
    exact ⟨_, rfl, h⟩
theorem tup_mul0 (l : Addr) (xs : Array Value) (n : Nat) (dd : Option Addr) (sl : Array (Option Value)) (u : Tok) (ne : xs.isEmpty = false) :
    Meets (Builtin.«tuple.__mul__» ⟨[.ref l, .int 0 u], []⟩) (fun _ R s => s.heap.get? l = some { cls := .type "tuple", dict := dd, data := .seq xs n, slots := sl } ∧
      R (.ok (.ret (Value.ref s.heap.objs.size))) { s with heap := s.heap.push { cls := Value.type "tuple", data := Data.seq #[] } }) :=
  .of_wp fun prog w A R s h => by
    obtain ⟨hp, g, d, tk, os⟩ := s
    obtain ⟨hl, h⟩ := h
    have f1 := AutoSeq1.idx_int
    have c1 : (xs.isEmpty || (0 : Int) == 1) = false := by rw [ne]; rfl
    have c2 : (decide ((0 : Int) ≤ 0) || xs.isEmpty) = true := by simp
    wp_walk using wpAny_loadPart' hl
    exact ⟨_, rfl, h⟩
def rRepA (K : PySem.W.Frag) : R2 := fun x y H Q => ∃ (l : Addr) (k : Nat) (xs : List V), x = .ref l ∧ y = .int (k : Nat) ∧ SqT K H l xs ∧ xs ≠ [] ∧ k ≤ 1000 ∧ xs.length ≤ 1000 ∧ (k = 1 → Q (.ref l) H) ∧ (k ≠ 1 → ∀ p, H p = none → Q (.ref p) (upd H p (.tup (List.replicate k xs).flatten)))
theorem kRepA {X : Cx} (K : PySem.W.Frag) (hK : X.K = K) : OpR X (binaryOp .Mult) (rRepA K) := by
  subst hK
  intro pins s σ H x y v u Q I rx ry h
  obtain ⟨l, k, xs, rfl, rfl, hT, hne, hk, hz, q1, q2⟩ := h
  match k, hk, q1, q2, ry with
  | k + 2, hk, q1, q2, ry => exact op_repT pins s σ H _ _ v u Q I rx ry ⟨l, _, xs, rfl, rfl, hT, hne, by omega, by omega, hz, fun p hp => by rw [Int.toNat_natCast]; exact q2 (by omega) p hp⟩
  | 0, hk, q1, q2, ry =>
    cases rx
    obtain ⟨t, rfl⟩ := ry
    obtain ⟨its, r, ⟨⟨cls, dd, data, sl⟩, ho, hc, n, hd⟩, hs⟩ := I.tuple hT
    simp only at hc hd
    subst hc hd
    have ie : its.toArray.isEmpty = false := by
      cases r with
      | nil => exact absurd rfl hne
      | cons _ _ => rfl
    refine wpAny_binaryOp_repeat_ref (T := "tuple") (U := "int") (by decide) ⟨_, ho, rfl⟩ (fun s' => typeIs_int s' _ t) noFill_tuple_mul F.fills_int_mul F.slot_int_rmul repeat_tuple F.slot_int_index.lookup
      (call_meets F.slot_int_rmul (typeIs_int s _ t) F.entry_int_rmul (F.args_int_rmul_2 _ _) (int_rmul_tuple _ t l its.toArray n dd sl)
        ⟨ho, rfl, ⟨_, ho, rfl⟩, call_meets F.slot_tuple_mul ⟨_, ho, rfl⟩ F.entry_tuple_mul (F.args_tuple_mul_2 _ _) (tup_mul0 l its.toArray n dd sl t ie) ⟨ho, ?_⟩⟩)
    refine ⟨.ref s.heap.objs.size, _, I.laid (t' := s.toks) (o := .tup []) (fun b ob q => Heap.get?_push_of_some _ q) (Nat.le_refl _) ⟨Nat.zero_le _, [], .nil, IsTup.new _ _⟩, rfl, q2 (by decide) _ (I.hok.fresh (Nat.le_refl _))⟩
  | 1, hk, q1, q2, ry =>
    cases rx
    obtain ⟨t, rfl⟩ := ry
    obtain ⟨its, r, ⟨⟨cls, dd, data, sl⟩, ho, hc, n, hd⟩, hs⟩ := I.tuple hT
    simp only at hc hd
    subst hc hd
    refine wpAny_binaryOp_repeat_ref (T := "tuple") (U := "int") (by decide) ⟨_, ho, rfl⟩ (fun s' => typeIs_int s' _ t) noFill_tuple_mul F.fills_int_mul F.slot_int_rmul repeat_tuple F.slot_int_index.lookup
      (call_meets F.slot_int_rmul (typeIs_int s _ t) F.entry_int_rmul (F.args_int_rmul_2 _ _) (int_rmul_tuple _ t l its.toArray n dd sl)
        ⟨ho, rfl, ⟨_, ho, rfl⟩, call_meets F.slot_tuple_mul ⟨_, ho, rfl⟩ F.entry_tuple_mul (F.args_tuple_mul_2 _ _) (tup_mul1 l its.toArray n dd sl t) ⟨ho, ?_⟩⟩)
    exact ⟨.ref l, H, I, rfl, q1 rfl⟩
theorem kInD {X : Cx} (K : PySem.W.Frag) (hK : X.K = K) (hu : X.A.units + 65 < cLine) : OpR X (compareOp .In) (rInD K) := by subst hK; exact op_inD hu
theorem kNotInD {X : Cx} (K : PySem.W.Frag) (hK : X.K = K) (hu : X.A.units + 65 < cLine) : OpR X (compareOp .NotIn) (rNotInD K) := by subst hK; exact op_notInD hu
theorem kSortT {X : Cx} (K : PySem.W.Frag) (hK : X.K = K) {d : Nat} {B : Int} (hd : 1 ≤ d) : CallR X (.builtin "sorted") (rSortU K d B) := by subst hK; exact cr_sortT hd
end FYR

set_option Elab.async false
set_option linter.all false
set_option maxRecDepth 100000
set_option maxHeartbeats 4000000
namespace FY
open PySem L2 FYR
/-! ## data, how large it is -/
structure Nice (n w : Nat) (d : PyData) : Prop where
  lay : d.canLay0 = true
  dep : d.depth ≤ n
  sh : d.showable = true
  nd : d.hasDict = false
  wt : d.weight ≤ w
  si : d.intsShort 13 = true
theorem Nice.mono {n w n' w' : Nat} {d : PyData} (h : Nice n w d) (h1 : n ≤ n') (h2 : w ≤ w') : Nice n' w' d := ⟨h.lay, Nat.le_trans h.dep h1, h.sh, h.nd, Nat.le_trans h.wt h2, h.si⟩
theorem Nice.shp {n w : Nat} {d : PyData} (h : Nice n w d) (hn : n ≤ 64) : SeqAt.shaped d = true := by
  have := h.dep
  unfold SeqAt.shaped
  simp [h.lay]
  omega
theorem Nice.shown {n w : Nat} {d : PyData} (h : Nice n w d) (hn : n ≤ 64) (hw : w ≤ 1000000) : d.shown.length ≤ sizeLine := by
  have h1 := h.dep
  have h2 := h.wt
  refine Nat.le_trans (PyProof.Rows.shown_le13 ?_ h.si) (by decide)
  unfold PyData.layable0
  simp only [h.lay, Bool.true_and, Bool.and_eq_true, decide_eq_true_eq]
  exact ⟨by omega, by have : (2 : Nat) ^ 20 = 1048576 := by decide
                      omega⟩
def smallInt (k : Fin 101) : Bool := (PyData.int (k.val : Int)).showable && decide ((PyData.int (k.val : Int)).weight ≤ 7) && (PyData.int (k.val : Int)).intsShort 13
theorem smallInts : ∀ k : Fin 101, smallInt k = true := by decide +kernel
theorem nice_int {k : Nat} (h : k ≤ 100) : Nice 0 7 (.int (k : Int)) := by
  have z := smallInts ⟨k, by omega⟩
  unfold smallInt at z
  simp only [Bool.and_eq_true, decide_eq_true_eq] at z
  exact ⟨rfl, Nat.le_refl _, z.1.1, rfl, z.1.2, z.2⟩
theorem tx_ok (b : List Bool) : PyData.strOk (tx b) = true := by
  unfold PyData.strOk
  rw [Array.all_eq_true_iff_forall_mem]
  intro c hc
  simp only [tx, List.mem_toArray, List.mem_map] at hc
  obtain ⟨x, _, rfl⟩ := hc
  cases x <;> decide
theorem nice_str {b : List Bool} {m : Nat} (h : b.length ≤ m) : Nice 0 m (.str (tx b)) := ⟨tx_ok b, Nat.le_refl _, rfl, rfl, by show (tx b).cps.size ≤ m; rw [tx_size]; exact h, rfl⟩
theorem nice_rd (r : Rd) : Nice 0 2 (.str r.s) := by
  cases r <;> exact ⟨by decide +kernel, Nat.le_refl _, rfl, rfl, by decide +kernel, rfl⟩
structure NiceAll (n w m : Nat) (ds : List PyData) : Prop where
  lay : PyData.canLayAll0 ds = true
  dep : PyData.depthAll ds ≤ n
  sh : PyData.showableAll ds = true
  nd : PyData.hasDictAll ds = false
  wt : PyData.weightAll ds ≤ m * (w + 1)
  si : PyData.intsShortAll 13 ds = true
theorem nice_all {n w : Nat} : ∀ {ds : List PyData}, (∀ d ∈ ds, Nice n w d) → NiceAll n w ds.length ds
  | [], _ => ⟨rfl, Nat.zero_le _, rfl, rfl, Nat.zero_le _, rfl⟩
  | d :: r, h => by
    have a := h d (List.mem_cons_self ..)
    have b := nice_all fun x hx => h x (List.mem_cons_of_mem _ hx)
    refine ⟨by simp [PyData.canLayAll0, a.lay, b.lay], by rw [PyData.depthAll]; exact Nat.max_le.mpr ⟨a.dep, b.dep⟩, by simp [PyData.showableAll, a.sh, b.sh], by simp [PyData.hasDictAll, a.nd, b.nd], ?_, by simp [PyData.intsShortAll, a.si, b.si]⟩
    have := a.wt
    have := b.wt
    simp only [PyData.weightAll, List.length_cons, Nat.add_mul]
    omega
theorem nice_tup {n w m : Nat} {ds : List PyData} (h : ∀ d ∈ ds, Nice n w d) (hm : ds.length ≤ m) : Nice (n + 1) (m * (w + 1)) (.tuple ds) := by
  have a := nice_all h
  exact ⟨a.lay, Nat.succ_le_succ a.dep, a.sh, a.nd, Nat.le_trans a.wt (Nat.mul_le_mul_right _ hm), a.si⟩
theorem nice_lst {n w m : Nat} {ds : List PyData} (h : ∀ d ∈ ds, Nice n w d) (hm : ds.length ≤ m) : Nice (n + 1) (m * (w + 1)) (.list ds) := by
  have a := nice_all h
  exact ⟨a.lay, Nat.succ_le_succ a.dep, a.sh, a.nd, Nat.le_trans a.wt (Nat.mul_le_mul_right _ hm), a.si⟩
theorem dpall {α : Type} {K : PySem.W.Frag} {H : Hp} {R : V → α → Prop} {f : α → PyData} (h : ∀ v x, R v x → Dp K H v (f x)) : ∀ {vs : List V} {xs : List α}, Paired R vs xs → DpAll K H vs (xs.map f)
  | _, _, .nil => .nil
  | _, _, .cons r q => .cons (h _ _ r) (dpall h q)
theorem dpstr {K : PySem.W.Frag} {H : Hp} : ∀ bs : List (List Bool), DpAll K H (bs.map fun b => V.str (tx b)) (bs.map fun b => PyData.str (tx b))
  | [] => .nil
  | b :: r => .cons (.str _) (dpstr r)
/-! rows, standings, stations -/
def rwD (r : Rw) : PyData := .tuple [.tuple (r.gives.map fun b => .str (tx b)), .int r.goal, .int r.ticks]
def sgD (s : Sg) : PyData := .tuple [.str s.reads.s, .tuple (s.rows.map rwD)]
def toD (s : Sg) : PyData := .tuple [.str s.reads.s, .list (s.rows.map rwD)]
def stD (t : Stn) : PyData := .tuple [.int t.ins, .int t.outs, .list (t.stgs.map toD)]
theorem RwA.dp {K : PySem.W.Frag} {H : Hp} {v : V} {r : Rw} (h : RwA H v r) : Dp K H v (rwD r) := by
  obtain ⟨a, g, rfl, h1, h2⟩ := h
  exact .tup (SqT.of h1) (.cons (.tup (SqT.of h2) (dpstr _)) (.cons (.int _) (.cons (.int _) .nil)))
theorem SgA.dp {K : PySem.W.Frag} {H : Hp} {v : V} {s : Sg} (h : SgA H v s) : Dp K H v (sgD s) := by
  obtain ⟨a, q, ws, rfl, h1, h2, p⟩ := h
  exact .tup (SqT.of h1) (.cons (.str _) (.cons (.tup (SqT.of h2) (dpall (fun _ _ r => r.dp) p)) .nil))
theorem ToldA.dp {K : PySem.W.Frag} {H : Hp} {v : V} {s : Sg} (h : ToldA H v s) : Dp K H v (toD s) := by
  obtain ⟨a, q, ws, rfl, h1, h2, p⟩ := h
  exact .tup (SqT.of h1) (.cons (.str _) (.cons (.lst (SqL.of h2) (dpall (fun _ _ r => r.dp) p)) .nil))
theorem rw_nice {r : Rw} {outs many : Nat} (h : r.ok outs many) (ho : outs ≤ 2) (hm : many ≤ 100) : Nice 2 24 (rwD r) := by
  obtain ⟨h1, h2, h3, h4, h5⟩ := h
  refine nice_tup (n := 1) (w := 7) (m := 3) (fun d hd => ?_) (Nat.le_refl 3)
  simp only [List.mem_cons, List.not_mem_nil, or_false] at hd
  rcases hd with rfl | rfl | rfl
  · refine (nice_tup (n := 0) (w := 2) (m := 2) (fun d hd => ?_) (by rw [List.length_map]; omega)).mono (Nat.le_refl 1) (by decide)
    obtain ⟨b, hb, rfl⟩ := List.mem_map.mp hd
    exact nice_str (h2 b hb)
  · exact (nice_int (by omega)).mono (by decide) (Nat.le_refl 7)
  · exact (nice_int (by omega)).mono (by decide) (Nat.le_refl 7)
theorem rows_nice {s : Sg} {ins outs many : Nat} (h : s.ok ins outs many) (ho : outs ≤ 2) (hm : many ≤ 100) : (∀ d ∈ s.rows.map rwD, Nice 2 24 d) ∧ (s.rows.map rwD).length ≤ 4 := by
  obtain ⟨_, h2, h3⟩ := h
  refine ⟨fun d hd => ?_, ?_⟩
  · obtain ⟨r, hr, rfl⟩ := List.mem_map.mp hd
    exact rw_nice (h3 r hr) ho hm
  · rw [List.length_map, h2]
    cases s.reads <;> decide
theorem sg_nice {s : Sg} {ins outs many : Nat} (h : s.ok ins outs many) (ho : outs ≤ 2) (hm : many ≤ 100) : Nice 4 202 (sgD s) := by
  obtain ⟨a, b⟩ := rows_nice h ho hm
  refine nice_tup (n := 3) (w := 100) (m := 2) (fun d hd => ?_) (Nat.le_refl 2)
  simp only [List.mem_cons, List.not_mem_nil, or_false] at hd
  rcases hd with rfl | rfl
  · exact (nice_rd _).mono (by decide) (by decide)
  · exact nice_tup a b
theorem to_nice {s : Sg} {ins outs many : Nat} (h : s.ok ins outs many) (ho : outs ≤ 2) (hm : many ≤ 100) : Nice 4 202 (toD s) := by
  obtain ⟨a, b⟩ := rows_nice h ho hm
  refine nice_tup (n := 3) (w := 100) (m := 2) (fun d hd => ?_) (Nat.le_refl 2)
  simp only [List.mem_cons, List.not_mem_nil, or_false] at hd
  rcases hd with rfl | rfl
  · exact (nice_rd _).mono (by decide) (by decide)
  · exact nice_lst a b
theorem st_nice {t : Stn} (h : t.ok) : Nice 6 2439 (stD t) := by
  have := h.i2
  have := h.o2
  refine nice_tup (n := 5) (w := 812) (m := 3) (fun d hd => ?_) (Nat.le_refl 3)
  simp only [List.mem_cons, List.not_mem_nil, or_false] at hd
  rcases hd with rfl | rfl | rfl
  · exact (nice_int (by omega)).mono (by decide) (by decide)
  · exact (nice_int (by omega)).mono (by decide) (by decide)
  · refine nice_lst (n := 4) (w := 202) (m := 4) (fun d hd => ?_) (by rw [List.length_map]; exact h.m2)
    obtain ⟨s, hs, rfl⟩ := List.mem_map.mp hd
    exact to_nice (h.sg s hs) h.o2 (Nat.le_trans h.m2 (by decide))
theorem sgs_nice {t : Stn} (h : t.ok) : Nice 5 812 (.tuple (t.stgs.map sgD)) := by
  refine nice_tup (n := 4) (w := 202) (m := 4) (fun d hd => ?_) (by rw [List.length_map]; exact h.m2)
  obtain ⟨s, hs, rfl⟩ := List.mem_map.mp hd
  exact sg_nice (h.sg s hs) h.o2 (Nat.le_trans h.m2 (by decide))
/-! pipes and lines -/
def ppD (p : Pipe) : PyData := .tuple [.int p.1, .int p.2.1, .int p.2.2.1, .int p.2.2.2]
def lnD (l : Nat × Nat) : PyData := .tuple [.int l.1, .int l.2]
theorem PipeA.dp {K : PySem.W.Frag} {H : Hp} {v : V} {p : Pipe} (h : PipeA H v p) : Dp K H v (ppD p) := by
  obtain ⟨t, rfl, h⟩ := h
  exact .tup (SqT.of h) (.cons (.int _) (.cons (.int _) (.cons (.int _) (.cons (.int _) .nil))))
theorem pp_nice {p : Pipe} (h : p.1 ≤ 100 ∧ p.2.1 ≤ 100 ∧ p.2.2.1 ≤ 100 ∧ p.2.2.2 ≤ 100) : Nice 1 32 (ppD p) := by
  obtain ⟨h1, h2, h3, h4⟩ := h
  refine nice_tup (n := 0) (w := 7) (m := 4) (fun d hd => ?_) (Nat.le_refl 4)
  simp only [List.mem_cons, List.not_mem_nil, or_false] at hd
  rcases hd with rfl | rfl | rfl | rfl <;> exact nice_int (by assumption)
theorem ln_nice {l : Nat × Nat} (h : l.1 ≤ 100 ∧ l.2 ≤ 100) : Nice 1 16 (lnD l) := by
  refine nice_tup (n := 0) (w := 7) (m := 2) (fun d hd => ?_) (Nat.le_refl 2)
  simp only [List.mem_cons, List.not_mem_nil, or_false] at hd
  rcases hd with rfl | rfl
  · exact nice_int h.1
  · exact nice_int h.2
theorem ln_eqv (a b : Nat × Nat) : PyData.eqv (lnD a) (lnD b) = decide (a = b) := by
  obtain ⟨x, y⟩ := a
  obtain ⟨z, w⟩ := b
  simp only [lnD, PyData.eqv, PyData.eqvAll, Bool.and_true]
  by_cases h1 : x = z <;> by_cases h2 : y = w <;> simp [h1, h2] <;> omega
/-- the value is a pair of numbers, a tuple -/
def PrA (H : Hp) (v : V) (l : Nat × Nat) : Prop := ∃ t, v = .ref t ∧ H t = some (.tup [.int l.1, .int l.2])
theorem PrA.dp {K : PySem.W.Frag} {H : Hp} {v : V} {l : Nat × Nat} (h : PrA H v l) : Dp K H v (lnD l) := by
  obtain ⟨t, rfl, h⟩ := h
  exact .tup (SqT.of h) (.cons (.int _) (.cons (.int _) .nil))
theorem PrA.keep {H H' : Hp} (k : Tups H H') {v : V} {l : Nat × Nat} (h : PrA H v l) : PrA H' v l := by
  obtain ⟨t, e, h⟩ := h
  exact ⟨t, e, k _ _ h⟩
theorem pr_all {H H' : Hp} (k : Tups H H') : ∀ {vs : List V} {ls : List (Nat × Nat)}, Paired (PrA H) vs ls → Paired (PrA H') vs ls
  | _, _, .nil => .nil
  | _, _, .cons r q => .cons (r.keep k) (pr_all k q)
theorem any_ln (l : Nat × Nat) : ∀ ls : List (Nat × Nat), ((ls.map lnD).any fun z => PyData.eqv z (lnD l)) = decide (l ∈ ls)
  | [] => rfl
  | a :: r => by
    rw [List.map_cons, List.any_cons, any_ln l r, ln_eqv]
    by_cases h : a = l
    · subst h; simp
    · rw [decide_eq_false h, Bool.false_or]
      have : (l ∈ a :: r) ↔ l ∈ r := by
        rw [List.mem_cons]
        exact ⟨fun z => z.elim (fun e => absurd e.symm h) id, .inr⟩
      simp only [this]
/-! ## lists in A may change, all else stays -/
def KL (A : List Addr) (H H' : Hp) : Prop := ∀ b o, (b ∈ A → ∀ xs, o ≠ .lst xs) → H b = some o → H' b = some o
theorem KL.of {A : List Addr} {H H' : Hp} (s : Same H H') : KL A H H' := fun b o _ e => s b o e
theorem KL.trans {A : List Addr} {H H1 H2 : Hp} (a : KL A H H1) (b : KL A H1 H2) : KL A H H2 := fun x o n e => b x o n (a x o n e)
theorem KL.mono {A B : List Addr} {H H' : Hp} (a : KL A H H') (h : ∀ x ∈ A, x ∈ B) : KL B H H' := fun b o n e => a b o (fun z => n (h b z)) e
theorem KL.nl {A : List Addr} {H H' : Hp} (a : KL A H H') : NL H H' := fun b o n e => a b o (fun _ => n) e
theorem KL.tups {A : List Addr} {H H' : Hp} (a : KL A H H') : Tups H H' := a.nl.tups
theorem KL.at {A : List Addr} {H : Hp} {L : Addr} {xs : List V} {o : HO} (h : H L = some (.lst xs)) (m : L ∈ A) : KL A H (upd H L o) := fun b u n e => by
  rw [upd_ne (fun z => by rw [z, h] at e; exact n (z ▸ m) xs (Option.some.inj e).symm)]
  exact e
theorem KL.lst {A : List Addr} {H H' : Hp} (a : KL A H H') {L : Addr} {xs : List V} (n : L ∉ A) (h : H L = some (.lst xs)) : H' L = some (.lst xs) := a L _ (fun z => absurd z n) h
/-- a new object is in none of the lists that stand -/
theorem new_nin {A : List Addr} {H : Hp} {p : Addr} (h : ∀ a ∈ A, H a ≠ none) (hp : H p = none) : p ∉ A := fun m => h p m hp
def ToldX (A : List Addr) (H : Hp) (v : V) (s : Sg) : Prop := ∃ a q ws, v = .ref a ∧ H a = some (.tup [.str s.reads.s, .ref q]) ∧ q ∉ A ∧ H q = some (.lst ws) ∧ Paired (RwA H) ws s.rows
def DatA (A : List Addr) (H : Hp) (v : V) (t : Stn) : Prop := ∃ a L ws, v = .ref a ∧ H a = some (.tup [.int t.ins, .int t.outs, .ref L]) ∧ L ∉ A ∧ H L = some (.lst ws) ∧ Paired (ToldX A H) ws t.stgs
theorem ToldX.kl {A : List Addr} {H H' : Hp} (k : KL A H H') {v : V} {s : Sg} (h : ToldX A H v s) : ToldX A H' v s := by
  obtain ⟨a, q, ws, e, h1, n, h2, p⟩ := h
  exact ⟨a, q, ws, e, k.tups _ _ h1, n, k.lst n h2, rwA_all k.tups p⟩
theorem toldX_all {A : List Addr} {H H' : Hp} (k : KL A H H') : ∀ {vs : List V} {ss : List Sg}, Paired (ToldX A H) vs ss → Paired (ToldX A H') vs ss
  | _, _, .nil => .nil
  | _, _, .cons r q => .cons (r.kl k) (toldX_all k q)
theorem toldX_sub {A B : List Addr} {H : Hp} (h : ∀ x ∈ B, x ∈ A) : ∀ {vs : List V} {ss : List Sg}, Paired (ToldX A H) vs ss → Paired (ToldX B H) vs ss
  | _, _, .nil => .nil
  | _, _, .cons ⟨a, q, ws, e, h1, n, h2, p⟩ r => .cons ⟨a, q, ws, e, h1, fun z => n (h _ z), h2, p⟩ (toldX_sub h r)
theorem toldX_told {A : List Addr} {H : Hp} : ∀ {vs : List V} {ss : List Sg}, Paired (ToldX A H) vs ss → Paired (ToldA H) vs ss
  | _, _, .nil => .nil
  | _, _, .cons ⟨a, q, ws, e, h1, _, h2, p⟩ r => .cons ⟨a, q, ws, e, h1, h2, p⟩ (toldX_told r)
theorem DatA.kl {A : List Addr} {H H' : Hp} (k : KL A H H') {v : V} {t : Stn} (h : DatA A H v t) : DatA A H' v t := by
  obtain ⟨a, L, ws, e, h1, n, h2, p⟩ := h
  exact ⟨a, L, ws, e, k.tups _ _ h1, n, k.lst n h2, toldX_all k p⟩
theorem DatA.sub {A B : List Addr} (hs : ∀ x ∈ B, x ∈ A) {H : Hp} {v : V} {t : Stn} (h : DatA A H v t) : DatA B H v t := by
  obtain ⟨a, L, ws, e, h1, n, h2, p⟩ := h
  exact ⟨a, L, ws, e, h1, fun z => n (hs _ z), h2, toldX_sub hs p⟩
theorem dat_all {A : List Addr} {H H' : Hp} (k : KL A H H') : ∀ {vs : List V} {ts : List Stn}, Paired (DatA A H) vs ts → Paired (DatA A H') vs ts
  | _, _, .nil => .nil
  | _, _, .cons r q => .cons (r.kl k) (dat_all k q)
theorem dat_sub {A B : List Addr} (hs : ∀ x ∈ B, x ∈ A) {H : Hp} : ∀ {vs : List V} {ts : List Stn}, Paired (DatA A H) vs ts → Paired (DatA B H) vs ts
  | _, _, .nil => .nil
  | _, _, .cons r q => .cons (r.sub hs) (dat_sub hs q)
theorem DatA.dp {A : List Addr} {K : PySem.W.Frag} {H : Hp} {v : V} {t : Stn} (h : DatA A H v t) : Dp K H v (stD t) := by
  obtain ⟨a, L, ws, rfl, h1, _, h2, p⟩ := h
  exact .tup (SqT.of h1) (.cons (.int _) (.cons (.int _) (.cons (.lst (SqL.of h2) (dpall (fun _ _ r => r.dp) (toldX_told p))) .nil)))
end FY

set_option Elab.async false
set_option linter.all false
set_option maxRecDepth 100000
set_option maxHeartbeats 4000000
namespace FY
open PySem L2 FYR
theorem kListOf {X : Cx} (K : PySem.W.Frag) (hK : X.K = K) : CallR X (.type "list") (fun xs H Q => ∃ p ys, xs = [.ref p] ∧ (SqL K H p ys ∨ SqT K H p ys) ∧ ∀ l, H l = none → Q (.ref l) (upd H l (.lst ys))) := by subst hK; exact call_list_of
theorem kCv {X : Cx} (K : PySem.W.Frag) (hK : X.K = K) {e : Expr} {ta : TE} {f : Str} {pos : Pos} (he : PE X e ta) (hb : attributeBase e f X.env (eval e X.env) = eval e X.env := by rfl) : PE X (.Attribute e f pos) (ClX.tCVal K ta f) := by subst hK; exact ClX.pe_cval he hb
theorem kCon {X : Cx} (K : PySem.W.Frag) (hK : X.K = K) {e : Expr} {ta : TE} {f : Str} {pos : Pos} (he : PE X e ta) (hb : attributeBase e f X.env (eval e X.env) = eval e X.env := by rfl) : PE X (.Attribute e f pos) (tCon K ta f) := by subst hK; exact pe_con he hb
/-- what isinstance asks of an own class -/
structure IsaC (K : PySem.W.Frag) (C : Addr) : Prop where
  cl : Cls K C
  ha : PySem.W.findIn K (.ref C) "__class__" = some (some (.builtin "object.__class__"))
  hn : PySem.W.specialIn K (.builtin "object.__class__") "__get__" = some (some (.builtin "getset_descriptor.__get__"))
  htk : PySem.W.takesIn K (.builtin "object.__class__") = some true
  hm : PySem.W.mroIn K C (.type "object") = some true
theorem IsaC.ty {K : PySem.W.Frag} {C a dx : Addr} {fs : List (Str × V)} {H : Hp} (i : IsaC K C) (h : H a = some (.ins C dx fs)) : TyX K H (.ref a) (.ref C) := .base (.ins h i.cl i.ha i.hn i.htk i.hm)
theorem kit_self {K : PySem.W.Frag} {C : Addr} : PySem.W.kitOne K (.ref C) (.ref C) = some true := by
  unfold PySem.W.kitOne
  simp
def spStandings (C : Addr) : Sp := fun vs H Q _ => ∃ (v : V) (t : Stn) (A : List Addr), vs = [v] ∧ StnA C H v t ∧ t.stgs.length ≤ 100 ∧ (∀ a ∈ A, H a ≠ none) ∧ ∀ H' p ws, Same H H' → p ∉ A → H' p = some (.lst ws) → Paired (ToldX (p :: A) H') ws t.stgs → Q (.ref p) H'
def StEq (C : Addr) (a b : Addr) (H : Hp) : Prop := ∃ t, StnA C H (.ref a) t ∧ StnA C H (.ref b) t ∧ t.ok
theorem StEq.mon {C a b : Addr} {H H' : Hp} (e : Ext H H') (h : StEq C a b H) : StEq C a b H' := by
  obtain ⟨t, h1, h2, h3⟩ := h
  exact ⟨t, h1.but2 (fun b o _ q => e b o q), h2.but2 (fun b o _ q => e b o q), h3⟩
theorem eqv_dec {d : PyData} (h : d.canLay0 = true) : PyData.eqv d d = true := SeqAt.eqv_refl d h
section
variable {P : Program} {w : World} {K : PySem.W.Frag} {mg : Str → Option Value} {base : Heap} {aS a1 a2 aL aT : Addr} {f : Addr} {fd : FuncData} {C CD : Addr}
abbrev s_Station_standings : Stmt := inClass (top 33) 3
abbrev N_Station_standings : List Str := ["self", "reads", "rows"]
theorem sc_Station_standings : FnScope N_Station_standings ["self"] (defScope s_Station_standings) := ⟨rfl, rfl, rfl, by decide +kernel, rfl, by decide +kernel, by decide +kernel⟩
theorem ok_Station_standings (F : Fun K "standings" "Station.standings" s_Station_standings f fd) (T : Txt K mg aS a1 a2) (S : StC K mg C) : FnOk P w K mg base CX0 1 f fd ["self"] (spStandings C) := by
  refine F.ok sc_Station_standings (fun vs H Q E h => ?_) (fun cdv A outer s H vs Q E hr h => ?_)
  · obtain ⟨v, t, A', rfl, _⟩ := h
    rfl
  obtain ⟨v, t, A', rfl, ⟨a, dx, p, ps, rfl, ha, hp, pr⟩, hm, hA, q⟩ := h
  refine ⟨_, (pss_one (ps_ret (pe_lc (own := [("reads", 1), ("rows", 2)]) rfl sc_Station_standings.nd (kTup K rfl (kFld K rfl (pv 0))) (blkOk_by (N := N_Station_standings) (sc := defScope s_Station_standings) (by decide +kernel)) (fun _ _ _ _ _ => (kTupG (n := 2) K rfl rfl (pgs_cons (pg_name (i := 1) sc_Station_standings.nd rfl (Or.inl rfl)) (pgs_cons (pg_name (i := 2) sc_Station_standings.nd rfl (Or.inl rfl)) pgs_nil)))) (fun _ _ _ _ _ => pts_nil) (fun _ _ _ _ _ => (pe_tup (pa_cons (pv 1) (pa_cons (pe_callTy (kListOf K rfl) rfl T.b_list bt_list (pa_cons (pv 2) pa_nil)) pa_nil))))))), ?_⟩
  have hwl := paired_len pr
  refine ⟨_, rfl, a, C, dx, _, _, rfl, ha, S.cl, S.nS, rfl, _, rfl, ⟨_, SqT.of hp⟩, fun D hD => lc_it walk_tup (fun i H' => Same H H' ∧ ∃ us, H' D = some (.lst us) ∧ Paired (ToldX (D :: A') H') us (t.stgs.take i)) ⟨same_new hD _, [], upd_same, .nil⟩ (fun i H' _ z => SqT.of (z.1 _ _ hp)) ?_ ?_⟩
  · rintro i x H1 H2 hi ⟨sm, us, hd, pu⟩ ⟨rfl, hx⟩
    obtain ⟨sg, hsg, hxs⟩ := paired_get pr hx
    obtain ⟨b, l, rs, rfl, hb, hl, prs⟩ := hxs.keep (Tups.of sm)
    have hlu := paired_len pu
    have hil := lt_len hsg
    refine ⟨_, _, rfl, SqT.of hb, rfl, _, _, rfl, _, _, rfl, rfl, rfl, tyI ⟨_, rfl, _, rfl, _, _, rfl, .inr (SqT.of hl), fun p1 hp1 => ⟨sz rfl, fun p2 hp2 => ?_⟩⟩⟩
    have k1 := same_new hp1 (.lst rs)
    have k2 := same_new hp2 (.tup [.str sg.reads.s, .ref p1])
    have hd2 := k2 _ _ (k1 _ _ hd)
    have n1 : p1 ≠ D := fun z => by rw [z, hd] at hp1; cases hp1
    have nA : p1 ∉ A' := fun m => by
      cases e' : H p1 with
      | none => exact hA p1 m e'
      | some o => rw [sm _ _ e'] at hp1; cases hp1
    have kl : KL (D :: A') H2 (upd (upd (upd H2 p1 (.lst rs)) p2 (.tup [.str sg.reads.s, .ref p1])) D (.lst (us ++ [.ref p2]))) := (KL.of (k1.trans' k2)).trans (KL.at hd2 (by simp))
    refine ⟨_, hd2, ?_, same_at ((sm.trans' k1).trans' k2) hD, us ++ [.ref p2], upd_same, ?_⟩
    · rw [List.length_take] at hlu
      exact Nat.lt_of_lt_of_le (show us.length < 100000 by omega) (by decide)
    · rw [List.take_succ, hsg]
      refine paired_app (toldX_all kl pu) (.cons ⟨p2, p1, rs, rfl, tups_at hd2 _ _ upd_same, by simp [n1, nA], ?_, rwA_all kl.tups prs⟩ .nil)
      rw [upd_ne n1]
      exact k2 _ _ upd_same
  · rintro H1 ⟨sm, us, hd, pu⟩
    rw [hwl, List.take_of_length_le (Nat.le_refl _)] at pu
    exact q _ D _ sm (fun m => hA D m hD) hd pu
abbrev s_Station___eq__ : Stmt := inClass (top 33) 7
abbrev N_Station___eq__ : List Str := ["self", "other"]
theorem sc_Station___eq__ : FnScope N_Station___eq__ ["self", "other"] (defScope s_Station___eq__) := ⟨rfl, rfl, rfl, by decide +kernel, rfl, by decide +kernel, by decide +kernel⟩
theorem ok_Station_eq (F : Fun K "__eq__" "Station.__eq__" s_Station___eq__ f fd) (T : Txt K mg aS a1 a2) (S : StC K mg C) (I : IsaC K C) : FnOk P w K mg base CX0 1 f fd ["self", "other"] (spEq (StEq C)) := by
  refine F.ok sc_Station___eq__ (fun vs H Q E h => ?_) (fun cdv A outer s H vs Q E hr h => ?_)
  · obtain ⟨a, b, rfl, _⟩ := h
    rfl
  obtain ⟨x, y, rfl, ⟨t, ⟨a, dx, p, ps, ea, ha, hp, pr⟩, ⟨b, dy, p', ps', eb, hb, hp', pr'⟩, tok⟩, q⟩ := h
  cases ea
  cases eb
  refine ⟨_, (pss_cons (ps_if (PW.pt (pw_or (pt_not (pt_val (pe_callB (kIsi K rfl) rfl T.b_isinstance bt_isinstance (pa_cons (pv 1) (pa_cons (C8.pe_gc rfl S.g_Station) pa_nil))))) (pw_or (pt_cmpR op_ne (kFld K rfl (pv 0)) (kFld K rfl (pv 1)) (nomark _)) (pw_or1 (pt_cmpR op_ne (kFld K rfl (pv 0)) (kFld K rfl (pv 1)) (nomark _))))))
        (pss_one (ps_ret pe_bl))
        pss_nil)
        (pss_one (ps_ret (pe_cmpR (kEqD K rfl hr.units) (kFld K rfl (pv 0)) (kFld K rfl (pv 1)) (nomark _))))), ?_⟩
  refine ⟨_, rfl, _, _, _, _, _, rfl, .own C, I.ty hb, kit_self, _, rfl, iteF ?_⟩
  refine ⟨_, rfl, _, C, dx, _, _, rfl, ha, S.cl, S.nI, rfl, _, rfl, _, C, dy, _, _, rfl, hb, S.cl, S.nI, rfl, rfl, _, rfl, iteFd (by simp) ?_⟩
  refine ⟨_, rfl, _, C, dx, _, _, rfl, ha, S.cl, S.nO, rfl, _, rfl, _, C, dy, _, _, rfl, hb, S.cl, S.nO, rfl, rfl, _, rfl, iteFd (by simp) ?_⟩
  have ns := (sgs_nice tok)
  refine ⟨_, rfl, _, C, dx, _, _, rfl, ha, S.cl, S.nS, rfl, _, rfl, _, C, dy, _, _, rfl, hb, S.cl, S.nS, rfl, _, _, .tup (SqT.of hp) (dpall (fun _ _ r => r.dp) pr), .tup (SqT.of hp') (dpall (fun _ _ r => r.dp) pr'), ns.shp (by decide), ns.shp (by decide), ?_⟩
  rw [eqv_dec ns.lay]
  exact q _ Ext.rfl'
end
end FY


set_option Elab.async false
set_option linter.all false
set_option maxRecDepth 100000
set_option maxHeartbeats 4000000
namespace FY
open PySem L2 FYR
structure YdC (K : PySem.W.Frag) (mg : Str → Option Value) (CY : Addr) (mc : Value) : Prop where
  g_Yard : ∃ u, mg "Yard" = some u ∧ RelV (.ref CY) u
  cr : ClX.CRead K CY mc
  ms : ∃ u, ClX.CVal K CY mc "MOST_STATIONS" (.int 12) u
def spWantSt (C : Addr) : Sp := fun vs H Q _ => ∃ (L : Addr) (us : List V) (ts : List Stn), vs = [.ref L] ∧ H L = some (.lst us) ∧ Paired (StnA C H) us ts ∧ 1 ≤ ts.length ∧ ts.length ≤ 12 ∧ (∀ t, ts.head? = some t → t.ins = 1) ∧ ∀ H', Same H H' → Q .non H'
/-- a pipe that may stand between stations -/
structure PpOk (ts : List Stn) (p : Pipe) : Prop where
  lt : p.1 < p.2.2.1
  b : ∃ t, ts[p.1]? = some t ∧ p.2.1 < t.outs ∧ t.outs ≤ 2
  e : ∃ t, ts[p.2.2.1]? = some t ∧ p.2.2.2 < t.ins ∧ t.ins ≤ 2
def spIsPipe (C : Addr) : Sp := fun vs H Q _ => ∃ (L : Addr) (us : List V) (ts : List Stn) (v : V) (p : Pipe), vs = [.ref L, v] ∧ H L = some (.lst us) ∧ Paired (StnA C H) us ts ∧ PipeA H v p ∧ PpOk ts p ∧ Q (.bl true) H
theorem paired_at {α β : Type} {R : α → β → Prop} {a : List α} {b : List β} (h : Paired R a b) {i : Nat} {y : β} (hy : b[i]? = some y) : ∃ x, a[i]? = some x ∧ R x y := by
  induction h generalizing i with
  | nil => simp at hy
  | cons r q ih =>
    cases i with
    | zero => simp at hy; subst hy; exact ⟨_, rfl, r⟩
    | succ i => exact ih hy
theorem atI_nat {xs : List V} {i : Nat} {x : V} (h : xs[i]? = some x) : atI xs (i : Int) = some x := by
  unfold atI ixN
  rw [if_pos (by omega)]
  have := lt_len h
  simp [this]
  exact (List.getElem?_eq_some_iff.mp h).2
section
variable {P : Program} {w : World} {K : PySem.W.Frag} {mg : Str → Option Value} {base : Heap} {aS a1 a2 aL aT : Addr} {f : Addr} {fd : FuncData} {C CD CY : Addr} {mc : Value}
abbrev s_want_stations : Stmt := top 35
abbrev N_want_stations : List Str := ["stations", "position", "station"]
theorem sc_want_stations : FnScope N_want_stations ["stations"] (defScope s_want_stations) := ⟨rfl, rfl, rfl, by decide +kernel, rfl, by decide +kernel, by decide +kernel⟩
theorem ok_want_stations (F : Fun K "want_stations" "want_stations" s_want_stations f fd) (T : Txt K mg aS a1 a2) (S : StC K mg C) (I : IsaC K C) (Y : YdC K mg CY mc) (c_is_list : C8.Cal P w K mg base 1 "is_list" spIsList []) : FnOk P w K mg base CX0 2 f fd ["stations"] (spWantSt C) := by
  refine F.ok sc_want_stations (fun vs H Q E h => ?_) (fun cdv A outer s H vs Q E hr h => ?_)
  · obtain ⟨L, us, ts, rfl, _⟩ := h
    rfl
  obtain ⟨L, us, ts, rfl, hL, pr, m1, m2, h1, q⟩ := h
  have hwl := paired_len pr
  obtain ⟨u12, hu12⟩ := Y.ms
  refine ⟨_, (pss_cons (ps_if (PW.pt (pw_or (pt_not (pt_val (C8.pe_c c_is_list hr (by decide) rfl (pa_cons (pv 0) pa_nil)))) (pw_or1 (pt_not (pt_chain op_le op_le pe_int (pe_callB (kLen K rfl) rfl T.b_len bt_len (pa_cons (pv 0) pa_nil)) (kCv K rfl (C8.pe_gc rfl Y.g_Yard)))))))
        (pss_one ps_never)
        pss_nil)
        (pss_cons (ps_for PassesOwn.never rfl (kEnum K rfl rfl T.b_enumerate (pa_cons (pv 0) pa_nil)) (kTupG (n := 2) K rfl rfl (pgs_cons (pg_name (i := 1) sc_want_stations.nd rfl (Or.inl rfl)) (pgs_cons (pg_name (i := 2) sc_want_stations.nd rfl (Or.inl rfl)) pgs_nil)))
        (pss_one (ps_if (pt_not (pt_val (pe_callB (kIsi K rfl) rfl T.b_isinstance bt_isinstance (pa_cons (pv 2) (pa_cons (C8.pe_gc rfl S.g_Station) pa_nil)))))
        (pss_one ps_never)
        pss_nil)))
        (pss_one (ps_if (pt_cmpR op_ne (kFld K rfl (pe_ix (kIxL K rfl) (pv 0) pe_int (fun _ _ => rfl))) pe_int (nomark _))
        (pss_one ps_never)
        pss_nil)))), ?_⟩
  refine ⟨_, rfl, L, _, rfl, hL, fun H1 s1 => ⟨_, rfl, iteF ⟨_, rfl, _, _, rfl, .inl (SqL.of (s1 _ _ hL)), _, _, rfl, rfl, _, rfl, iteTd (by simp; omega) ⟨_, _, _, _, rfl, Y.cr, hu12, _, _, rfl, rfl, _, rfl, iteFd (by simp; omega) ?_⟩⟩⟩⟩
  have hL1 := s1 _ _ hL
  refine ⟨_, rfl, _, _, rfl, SqL.of hL1, for_it walk_enum (fun i σ H' => ∃ z1 z2 : Option V, σ = [some (.ref L), z1, z2] ∧ Same H H') ⟨_, _, rfl, s1⟩ (fun i σ H' _ ⟨_, _, _, e⟩ => SqL.of (e _ _ hL)) ?_ ?_⟩
  · rintro i x σ H2 H3 hi ⟨z4, z5, rfl, sm⟩ ⟨T0, p1, p2, rfl, hT0, rfl, hp1, hp2⟩
    obtain ⟨st, hst, a, dx, p, ps, rfl, ha, hp, pp⟩ := paired_get pr hp2
    have k0 := same_new hT0 (.tup [p1, .ref a])
    refine ⟨_, _, rfl, SqT.of upd_same, rfl, _, _, rfl, _, _, rfl, rfl, ?_⟩
    exact ⟨_, rfl, _, _, _, _, _, rfl, .own C, I.ty (k0 _ _ (sm _ _ ha)), kit_self, _, rfl, iteF ⟨_, _, rfl, sm.trans' k0⟩⟩
  · rintro σ H2 ⟨z4, z5, rfl, sm⟩
    cases pr with
    | nil => simp at m1
    | @cons v t vr tr r rr =>
      obtain ⟨a, dx, p, ps, rfl, ha, hp, pp⟩ := r
      have ht := h1 t rfl
      refine ⟨_, rfl, _, _, _, _, rfl, rfl, SqL.of (sm _ _ hL), at0, _, C, dx, _, _, rfl, sm _ _ ha, S.cl, S.nI, rfl, rfl, _, rfl, iteFd (by rw [ht]; rfl) (q _ sm)⟩
abbrev s_is_pipe : Stmt := top 36
abbrev N_is_pipe : List Str := ["stations", "value", "near", "line", "far", "entry"]
theorem sc_is_pipe : FnScope N_is_pipe ["stations", "value"] (defScope s_is_pipe) := ⟨rfl, rfl, rfl, by decide +kernel, rfl, by decide +kernel, by decide +kernel⟩
theorem ok_is_pipe (F : Fun K "is_pipe" "is_pipe" s_is_pipe f fd) (T : Txt K mg aS a1 a2) (S : StC K mg C) (c_is_below : C8.Cal P w K mg base 3 "is_below" spIsBelow []) : FnOk P w K mg base CX0 4 f fd ["stations", "value"] (spIsPipe C) := by
  refine F.ok sc_is_pipe (fun vs H Q E h => ?_) (fun cdv A outer s H vs Q E hr h => ?_)
  · obtain ⟨L, us, ts, v, p, rfl, _⟩ := h
    rfl
  obtain ⟨L, us, ts, v, p, rfl, hL, pr, ⟨tp, rfl, hp⟩, ⟨lt, ⟨t1, g1, b1, o1⟩, ⟨t2, g2, b2, o2⟩⟩, q⟩ := h
  have hwl := paired_len pr
  have l1 := lt_len g1
  have l2 := lt_len g2
  obtain ⟨x1, e1, a1', dx1, p1, ps1, rfl, ha1, _⟩ := paired_at pr g1
  obtain ⟨x2, e2, a2', dx2, p2, ps2, rfl, ha2, _⟩ := paired_at pr g2
  refine ⟨_, (pss_cons (ps_if (PW.pt (pw_or (pt_not (pt_val (pe_callB (kIsi K rfl) rfl T.b_isinstance bt_isinstance (pa_cons (pv 1) (pa_cons (pTy rfl T.b_tuple bt_tuple) pa_nil))))) (pw_or1 (pt_cmpR op_ne (pe_callB (kLen K rfl) rfl T.b_len bt_len (pa_cons (pv 1) pa_nil)) pe_int (nomark _)))))
        (pss_one (ps_ret pe_bl))
        pss_nil)
        (pss_cons (ps_asg (pv 1) (kTupG (n := 4) K rfl rfl (pgs_cons (pg_name (i := 2) sc_is_pipe.nd rfl (Or.inl rfl)) (pgs_cons (pg_name (i := 3) sc_is_pipe.nd rfl (Or.inl rfl)) (pgs_cons (pg_name (i := 4) sc_is_pipe.nd rfl (Or.inl rfl)) (pgs_cons (pg_name (i := 5) sc_is_pipe.nd rfl (Or.inl rfl)) pgs_nil))))))
        (pss_cons (ps_if (PW.pt (pw_or (pt_not (pt_val (C8.pe_c c_is_below hr (by decide) rfl (pa_cons (pv 2) (pa_cons (pe_callB (kLen K rfl) rfl T.b_len bt_len (pa_cons (pv 0) pa_nil)) pa_nil))))) (pw_or1 (pt_not (pt_val (C8.pe_c c_is_below hr (by decide) rfl (pa_cons (pv 4) (pa_cons (pe_callB (kLen K rfl) rfl T.b_len bt_len (pa_cons (pv 0) pa_nil)) pa_nil))))))))
        (pss_one (ps_ret pe_bl))
        pss_nil)
        (pss_cons (ps_if (PW.pt (pw_or (pt_cmpR op_ge (pv 2) (pv 4) (nomark _)) (pw_or (pt_not (pt_val (C8.pe_c c_is_below hr (by decide) rfl (pa_cons (pv 3) (pa_cons pe_int pa_nil))))) (pw_or1 (pt_not (pt_val (C8.pe_c c_is_below hr (by decide) rfl (pa_cons (pv 5) (pa_cons pe_int pa_nil)))))))))
        (pss_one (ps_ret pe_bl))
        pss_nil)
        (pss_one (ps_ret (pe_and (pe_cmpR op_lt (pv 3) (kFld K rfl (pe_ix (kIxL K rfl) (pv 0) (pv 2) (fun _ _ => rfl))) (nomark _)) (pe_one (pe_cmpR op_lt (pv 5) (kFld K rfl (pe_ix (kIxL K rfl) (pv 0) (pv 4) (fun _ _ => rfl))) (nomark _)))))))))), ?_⟩
  refine ⟨_, rfl, _, _, _, _, _, rfl, .ty _, ty_tup hp, ktt, _, rfl, iteF ⟨_, rfl, _, _, rfl, .inr (SqT.of hp), rfl, _, rfl, iteFd (by rw [dec_int]; rfl) ?_⟩⟩
  refine ⟨_, rfl, _, _, rfl, SqT.of hp, rfl, _, _, rfl, _, _, rfl, _, _, rfl, _, _, rfl, rfl, ?_⟩
  refine ⟨_, rfl, _, rfl, _, _, rfl, .inl (SqL.of hL), _, _, rfl, by omega, _, rfl, ?_⟩
  rw [decide_eq_true (by omega)]
  refine iteF ⟨_, rfl, _, rfl, _, _, rfl, .inl (SqL.of hL), _, _, rfl, by omega, _, rfl, ?_⟩
  rw [decide_eq_true (by omega)]
  refine iteF ⟨_, rfl, _, rfl, _, _, rfl, rfl, _, rfl, iteFd (by simp; omega) ?_⟩
  refine ⟨_, rfl, _, _, rfl, by omega, _, rfl, ?_⟩
  rw [decide_eq_true (by omega)]
  refine iteF ⟨_, rfl, _, _, rfl, by omega, _, rfl, ?_⟩
  rw [decide_eq_true (by omega)]
  refine iteF ⟨_, rfl, _, rfl, _, rfl, _, _, _, _, rfl, rfl, SqL.of hL, atI_nat e1, _, C, dx1, _, _, rfl, ha1, S.cl, S.nO, rfl, _, _, rfl, rfl, _, rfl, iteTd (by simp; omega) ?_⟩
  refine ⟨_, rfl, _, rfl, _, rfl, _, _, _, _, rfl, rfl, SqL.of hL, atI_nat e2, _, C, dx2, _, _, rfl, ha2, S.cl, S.nI, rfl, _, _, rfl, rfl, ?_⟩
  show Q (.bl (decide ((p.2.2.2 : Int) < (t2.ins : Int)))) H
  rw [decide_eq_true (by omega)]
  exact q
end
end FY


set_option Elab.async false
set_option linter.all false
set_option maxRecDepth 100000
set_option maxHeartbeats 4000000
namespace FY
open PySem L2 FYR
/-! comprehensions with two fors -/
section
variable {J J1 : It} {n n1 : Nat} {G G1 : Hp → Prop} {Y Y1 : Nat → Hp → V → Hp → Prop} {g g1 : TG} {tt tt1 : TT} {te : TE} {wi1 : TI} {vs vs1 : List Nat} {σ σ2 : St} {D : Addr}
def InnerL (g1 : TG) (tt1 : TT) (te : TE) (vs1 : List Nat) (σ2 : St) (D : Addr) (J1 : It) (H4 : Hp) (Nx : Hp → Prop) : Prop :=
  ∃ W1 : Nat → Nat → Hp → Prop, (∃ m, W1 0 m H4) ∧ ∀ j k H, W1 j k H → (J1.stop j H ∧ Nx H) ∨ (J1.go j H ∧ ∃ Nx1 : Hp → Prop, (∀ H', Nx1 H' → ∃ k', k' < k ∧ W1 (j + 1) k' H') ∧ ∀ x H', J1.yld j H x H' → g1 x (wipe σ2 vs1) H' fun σ3 H5 => wipe σ3 vs1 = wipe σ2 vs1 ∧ tt1 σ3 H5 fun b H6 => if b = true then te σ3 H6 fun y H7 => ∃ acc, H7 D = some (.lst acc) ∧ acc.length < sizeLine ∧ Nx1 (upd H7 D (.lst (acc ++ [y]))) else Nx1 H6)
theorem in_it (w : Walk J1 n1 G1 Y1) {H4 : Hp} {Nx : Hp → Prop} (Pv : Nat → Hp → Prop) (h0 : Pv 0 H4) (hG : ∀ i H, i ≤ n1 → Pv i H → G1 H)
    (hs : ∀ i x H H', i < n1 → Pv i H → Y1 i H x H' → g1 x (wipe σ2 vs1) H' fun σ3 H5 => wipe σ3 vs1 = wipe σ2 vs1 ∧ tt1 σ3 H5 fun b H6 => if b = true then te σ3 H6 fun y H7 => ∃ acc, H7 D = some (.lst acc) ∧ acc.length < sizeLine ∧ Pv (i + 1) (upd H7 D (.lst (acc ++ [y]))) else Pv (i + 1) H6)
    (hd : ∀ H, Pv n1 H → Nx H) : InnerL g1 tt1 te vs1 σ2 D J1 H4 Nx := by
  refine ⟨fun i m H => m = n1 - i ∧ i ≤ n1 ∧ Pv i H, ⟨n1, by simp, Nat.zero_le _, h0⟩, ?_⟩
  rintro i m H ⟨rfl, hi, p⟩
  have q := hG i H hi p
  by_cases hlt : i < n1
  · exact .inr ⟨w.goes i H hlt q, Pv (i + 1), (fun H' p' => ⟨n1 - (i + 1), by omega, rfl, hlt, p'⟩), fun x H' y => hs i x H H' hlt p (w.yields i H x H' hlt q y)⟩
  · obtain rfl : i = n1 := by omega
    exact .inl ⟨w.stops H q, hd H p⟩
theorem lc2_it (w : Walk J n G Y) {H1 : Hp} {Qd : Hp → Prop} (Pv : Nat → Hp → Prop) (h0 : Pv 0 (upd H1 D (.lst []))) (hG : ∀ i H, i ≤ n → Pv i H → G H)
    (hs : ∀ i x H H', i < n → Pv i H → Y i H x H' → g x (wipe σ vs) H' fun σ2 H2 => wipe σ2 vs = wipe σ vs ∧ tt σ2 H2 fun b H3 => if b = true then wi1 σ2 H3 fun J1 H4 => InnerL g1 tt1 te vs1 σ2 D J1 H4 (Pv (i + 1)) else Pv (i + 1) H3)
    (hd : ∀ H, Pv n H → Qd H) :
    ∃ W : Nat → Nat → Hp → Prop, (∃ m, W 0 m (upd H1 D (.lst []))) ∧ ∀ i m H, W i m H → (J.stop i H ∧ Qd H) ∨ (J.go i H ∧ ∃ Nx : Hp → Prop, (∀ H', Nx H' → ∃ m', m' < m ∧ W (i + 1) m' H') ∧ ∀ x H', J.yld i H x H' → g x (wipe σ vs) H' fun σ2 H2 => wipe σ2 vs = wipe σ vs ∧ tt σ2 H2 fun b H3 => if b = true then wi1 σ2 H3 fun J1 H4 => InnerL g1 tt1 te vs1 σ2 D J1 H4 Nx else Nx H3) := by
  refine ⟨fun i m H => m = n - i ∧ i ≤ n ∧ Pv i H, ⟨n, by simp, Nat.zero_le _, h0⟩, ?_⟩
  rintro i m H ⟨rfl, hi, p⟩
  have q := hG i H hi p
  by_cases hlt : i < n
  · exact .inr ⟨w.goes i H hlt q, Pv (i + 1), (fun H' p' => ⟨n - (i + 1), by omega, rfl, hlt, p'⟩), fun x H' y => hs i x H H' hlt p (w.yields i H x H' hlt q y)⟩
  · obtain rfl : i = n := by omega
    exact .inl ⟨w.stops H q, hd H p⟩
end
theorem hu65 {k : Nat} {A : Around} (r : Room k A) : A.units + 65 < cLine := by have := r.un; omega
theorem nwe {p : Prop} : ¬ (p ∧ (2 : Nat) = 4) := fun z => absurd z.2 (by decide)
theorem cutA (a b c d : V) : cutV [a, b, c, d] none (some 2) = [a, b] := rfl
theorem cutB (a b c d : V) : cutV [a, b, c, d] (some 2) none = [c, d] := rfl
theorem sum_ins : ∀ ts : List Stn, (ts.map fun t => (t.ins : Int)).sum = sumIns ts
  | [] => rfl
  | t :: r => by simp [sumIns, sum_ins r]
theorem lns_nice {ls : List (Nat × Nat)} (h : ∀ l ∈ ls, l.1 ≤ 100 ∧ l.2 ≤ 100) (hm : ls.length ≤ 1000) : Nice 2 17000 (.list (ls.map lnD)) := by
  refine nice_lst (n := 1) (w := 16) (m := 1000) (fun d hd => ?_) (by rw [List.length_map]; exact hm)
  obtain ⟨l, hl, rfl⟩ := List.mem_map.mp hd
  exact ln_nice (h l hl)
theorem ppok_le {ts : List Stn} {p : Pipe} (h : PpOk ts p) (hl : ts.length ≤ 100) : p.1 ≤ 100 ∧ p.2.1 ≤ 100 ∧ p.2.2.1 ≤ 100 ∧ p.2.2.2 ≤ 100 := by
  obtain ⟨lt, ⟨t1, g1, b1, o1⟩, ⟨t2, g2, b2, o2⟩⟩ := h
  have := lt_len g1
  have := lt_len g2
  omega
def spWantPp (C : Addr) : Sp := fun vs H Q _ => ∃ (L M : Addr) (us ws : List V) (ts : List Stn) (ps : List Pipe), vs = [.ref L, .ref M] ∧ H L = some (.lst us) ∧ Paired (StnA C H) us ts ∧ H M = some (.lst ws) ∧ Paired (PipeA H) ws ps ∧ (∀ p ∈ ps, PpOk ts p) ∧ (ps.map pb).Nodup ∧ (ps.map pe).Nodup ∧ sumIns ts ≤ ps.length + 1 ∧ ts.length ≤ 100 ∧ ps.length ≤ 1000 ∧ ∀ H', Same H H' → Q .non H'
section
variable {P : Program} {w : World} {K : PySem.W.Frag} {mg : Str → Option Value} {base : Heap} {aS a1 a2 aL aT : Addr} {f : Addr} {fd : FuncData} {C CD CY : Addr} {mc : Value}
abbrev s_want_pipes : Stmt := top 37
abbrev N_want_pipes : List Str := ["stations", "pipes", "begins", "ends", "position", "pipe", "station"]
theorem sc_want_pipes : FnScope N_want_pipes ["stations", "pipes"] (defScope s_want_pipes) := ⟨rfl, rfl, rfl, by decide +kernel, rfl, by decide +kernel, by decide +kernel⟩
theorem ok_want_pipes (F : Fun K "want_pipes" "want_pipes" s_want_pipes f fd) (T : Txt K mg aS a1 a2) (S : StC K mg C) (c_is_list : C8.Cal P w K mg base 1 "is_list" spIsList []) (c_is_pipe : C8.Cal P w K mg base 4 "is_pipe" (spIsPipe C) []) : FnOk P w K mg base CX0 5 f fd ["stations", "pipes"] (spWantPp C) := by
  refine F.ok sc_want_pipes (fun vs H Q E h => ?_) (fun cdv A outer s H vs Q E hr h => ?_)
  · obtain ⟨L, M, us, ws, ts, ps, rfl, _⟩ := h
    rfl
  obtain ⟨L, M, us, ws, ts, ps, rfl, hL, pr, hM, pp, pok, nb, ne, hsum, mt, mp, q⟩ := h
  have lt := paired_len pr
  have lp := paired_len pp
  refine ⟨_, (pss_cons (ps_if (pt_not (pt_val (C8.pe_c c_is_list hr (by decide) rfl (pa_cons (pv 1) pa_nil))))
        (pss_one ps_never)
        pss_nil)
        (pss_cons (ps_par (i := 2) (j := 3) rfl sc_want_pipes.nd rfl rfl (by decide) rfl rfl (pa_cons (pe_lst pa_nil) (pa_cons (pe_lst pa_nil) pa_nil)) rfl)
        (pss_cons (ps_for PassesOwn.never rfl (kEnum K rfl rfl T.b_enumerate (pa_cons (pv 1) pa_nil)) (kTupG (n := 2) K rfl rfl (pgs_cons (pg_name (i := 4) sc_want_pipes.nd rfl (Or.inl rfl)) (pgs_cons (pg_name (i := 5) sc_want_pipes.nd rfl (Or.inl rfl)) pgs_nil)))
        (pss_cons (ps_if (PW.pt (pw_or (pt_not (pt_val (C8.pe_c c_is_pipe hr (by decide) rfl (pa_cons (pv 0) (pa_cons (pv 5) pa_nil))))) (pw_or (pt_cmpR (kInD K rfl (hu65 hr)) (pe_slice (kSlT K rfl) (pv 5) po_none (po_some pe_int)) (pv 2) rfl) (pw_or1 (pt_cmpR (kInD K rfl (hu65 hr)) (pe_slice (kSlT K rfl) (pv 5) (po_some pe_int) po_none) (pv 3) rfl)))))
        (pss_one ps_never)
        pss_nil)
        (pss_cons (ps_expr (kBm K rfl PySem.F.plainAttrs_list PySem.F.slot_list_append PySem.F.type_list_append mt_append (pv 2) (pa_cons (pe_slice (kSlT K rfl) (pv 5) po_none (po_some pe_int)) pa_nil)))
        (pss_one (ps_expr (kBm K rfl PySem.F.plainAttrs_list PySem.F.slot_list_append PySem.F.type_list_append mt_append (pv 3) (pa_cons (pe_slice (kSlT K rfl) (pv 5) (po_some pe_int) po_none) pa_nil)))))))
        (pss_one (ps_if (pt_cmpR op_lt (pe_callB (kLen K rfl) rfl T.b_len bt_len (pa_cons (pv 1) pa_nil)) (pe_op op_sub (pe_callB (kSum K rfl rfl) rfl T.b_sum bt_sum (pa_cons (pe_lc (own := [("station", 6)]) rfl sc_want_pipes.nd (kList K rfl (pv 0)) (blkOk_by (N := N_want_pipes) (sc := defScope s_want_pipes) (by decide +kernel)) (fun _ _ _ _ _ => (pg_name (i := 6) sc_want_pipes.nd rfl (Or.inl rfl))) (fun _ _ _ _ _ => pts_nil) (fun _ _ _ _ _ => (kFld K rfl (pv 6)))) pa_nil)) pe_int) (nomark _))
        (pss_one ps_never)
        pss_nil))))), ?_⟩
  refine ⟨_, rfl, M, _, rfl, hM, fun H1 s1 => ⟨_, rfl, iteF ?_⟩⟩
  refine ⟨Nat.zero_le _, fun B hB => ⟨Nat.zero_le _, fun E0 hE0 => ⟨_, _, rfl, ?_⟩⟩⟩
  have nEB : E0 ≠ B := fun z => by rw [z, upd_same] at hE0; cases hE0
  have hE1 : H1 E0 = none := by rw [upd_ne nEB] at hE0; exact hE0
  have kB := same_new hB (.lst [])
  have kE := same_new hE0 (.lst [])
  have hM1 := s1 _ _ hM
  have hL1 := s1 _ _ hL
  refine ⟨_, rfl, _, _, rfl, SqL.of (kE _ _ (kB _ _ hM1)), for_it walk_enum (fun i σ H' => ∃ (z4 z5 : Option V) (bv ev : List V), σ = [some (.ref L), some (.ref M), some (.ref B), some (.ref E0), z4, z5, none] ∧ Same H1 H' ∧ H' B = some (.lst bv) ∧ Paired (PrA H') bv ((ps.take i).map pb) ∧ H' E0 = some (.lst ev) ∧ Paired (PrA H') ev ((ps.take i).map pe)) ?h0 (fun i σ H' _ ⟨_, _, _, _, _, e, _⟩ => SqL.of (e _ _ hM1)) ?hs ?hd⟩
  case h0 => exact ⟨_, _, [], [], rfl, kB.trans' kE, kE _ _ upd_same, .nil, upd_same, .nil⟩
  case hs =>
    rintro i x σ H2 H3 hi ⟨z4, z5, bv, ev, rfl, sm, hB2, pb2, hE2, pe2⟩ ⟨T0, p1, p2, rfl, hT0, rfl, hp1, hp2⟩
    obtain ⟨pi, hpi, hx⟩ := paired_get pp hp2
    have hil := lt_len hpi
    have k0 := same_new hT0 (.tup [p1, p2])
    have s3 : Same H1 (upd H2 T0 (.tup [p1, p2])) := sm.trans' k0
    have hok := pok pi (List.mem_of_getElem? hpi)
    have tk : ps.take (i + 1) = ps.take i ++ [pi] := by rw [List.take_succ, hpi]; rfl
    have lb := paired_len pb2
    have le := paired_len pe2
    rw [List.length_map, List.length_take] at lb le
    refine ⟨_, _, rfl, SqT.of upd_same, rfl, _, _, rfl, _, _, rfl, rfl, ?_⟩
    obtain ⟨tp, rfl, htp⟩ := hx
    have htp3 : upd H2 T0 (.tup [p1, .ref tp]) tp = _ := s3 _ _ (s1 _ _ htp)
    refine ⟨_, rfl, _, rfl, L, us, ts, .ref tp, pi, rfl, s3 _ _ hL1, stn_all (NL.of (s1.trans' s3)) pr, ⟨tp, rfl, htp3⟩, hok, _, rfl, iteF ?_⟩
    -- pipe[:2] in begins
    refine ⟨_, rfl, _, rfl, _, _, rfl, SqT.of htp3, nwe, fun q1 hq1 => ⟨_, rfl, ?_⟩⟩
    have k1 := same_new hq1 (.tup [.int pi.1, .int pi.2.1])
    have pb3 := pr_all (Tups.of (k0.trans' k1)) pb2
    have small : ∀ l ∈ (ps.take i).map pb, l.1 ≤ 100 ∧ l.2 ≤ 100 := fun l hl => by
      obtain ⟨y, hy, rfl⟩ := List.mem_map.mp hl
      have := ppok_le (pok y (List.mem_of_mem_take hy)) mt
      exact ⟨this.1, this.2.1⟩
    have small2 : ∀ l ∈ (ps.take i).map pe, l.1 ≤ 100 ∧ l.2 ≤ 100 := fun l hl => by
      obtain ⟨y, hy, rfl⟩ := List.mem_map.mp hl
      have := ppok_le (pok y (List.mem_of_mem_take hy)) mt
      exact ⟨this.2.2.1, this.2.2.2⟩
    have pl := ppok_le hok mt
    have ni : pb pi ∉ (ps.take i).map pb := fun z => by
      have h1 := nb
      rw [← List.take_append_drop (i + 1) ps, tk, List.map_append, List.map_append] at h1
      exact (List.nodup_append.mp (List.nodup_append.mp h1).1).2.2 _ z _ (by simp) rfl
    have ni2 : pe pi ∉ (ps.take i).map pe := fun z => by
      have h1 := ne
      rw [← List.take_append_drop (i + 1) ps, tk, List.map_append, List.map_append] at h1
      exact (List.nodup_append.mp (List.nodup_append.mp h1).1).2.2 _ z _ (by simp) rfl
    refine ⟨lnD (pb pi), _, .tup (SqT.of upd_same) (.cons (.int _) (.cons (.int _) .nil)), .lst (SqL.of (k1 _ _ (k0 _ _ hB2))) (dpall (fun _ _ r => r.dp) pb3), (ln_nice ⟨pl.1, pl.2.1⟩).shp (by decide), (lns_nice small (by rw [List.length_map, List.length_take]; omega)).shp (by decide), _, rfl, ?_⟩
    rw [any_ln, decide_eq_false ni]
    refine iteF ?_
    -- pipe[2:] in ends
    have htp4 := k1 _ _ htp3
    refine ⟨_, rfl, _, rfl, _, _, rfl, SqT.of htp4, nw2, fun q2 hq2 => ⟨_, rfl, ?_⟩⟩
    have k2 := same_new hq2 (.tup [.int pi.2.2.1, .int pi.2.2.2])
    have pe3 := pr_all (Tups.of ((k0.trans' k1).trans' k2)) pe2
    refine ⟨lnD (pe pi), _, .tup (SqT.of upd_same) (.cons (.int _) (.cons (.int _) .nil)), .lst (SqL.of (k2 _ _ (k1 _ _ (k0 _ _ hE2)))) (dpall (fun _ _ r => r.dp) pe3), (ln_nice ⟨pl.2.2.1, pl.2.2.2⟩).shp (by decide), (lns_nice small2 (by rw [List.length_map, List.length_take]; omega)).shp (by decide), _, rfl, ?_⟩
    rw [any_ln, decide_eq_false ni2]
    refine iteF ?_
    -- begins.append(pipe[:2])
    have s5 : Same H2 _ := (k0.trans' k1).trans' k2
    have hB5 := s5 _ _ hB2
    have hE5 := s5 _ _ hE2
    have htp5 := k2 _ _ htp4
    refine ⟨_, rfl, .inl ⟨rfl, _, SqL.of hB5⟩, _, rfl, _, rfl, _, _, rfl, SqT.of htp5, nwe, fun q3 hq3 => ?_⟩
    have k3 := same_new hq3 (.tup [.int pi.1, .int pi.2.1])
    have hB6 := k3 _ _ hB5
    refine ⟨B, bv, .ref q3, rfl, rfl, hB6, ?_, ?_⟩
    · exact Nat.lt_of_lt_of_le (show bv.length < 100000 by omega) (by decide)
    obtain ⟨H6, hH6⟩ : ∃ H6, H6 = upd (upd (upd (upd (upd H2 T0 (.tup [p1, .ref tp])) q1 (.tup [.int pi.1, .int pi.2.1])) q2 (.tup [.int pi.2.2.1, .int pi.2.2.2])) q3 (.tup [.int pi.1, .int pi.2.1])) B (.lst (bv ++ [.ref q3])) := ⟨_, rfl⟩
    have t6 : Tups H2 H6 := by rw [hH6]; exact (Tups.of (s5.trans' k3)).trans (tups_at hB6)
    have f6 : ∀ b o, b ≠ B → H2 b = some o → H6 b = some o := fun b o hb e => by rw [hH6, upd_ne hb]; exact (s5.trans' k3) _ _ e
    have hB7 : H6 B = some (.lst (bv ++ [.ref q3])) := by rw [hH6, upd_same]
    have hq37 : H6 q3 = some (.tup [.int pi.1, .int pi.2.1]) := by rw [hH6]; exact tups_at hB6 _ _ upd_same
    have hE7 : H6 E0 = some (.lst ev) := f6 _ _ nEB hE2
    have htp7 : H6 tp = _ := t6 _ _ (sm _ _ (s1 _ _ htp))
    rw [cutA, cutB, ← hH6]
    clear hH6
    refine ⟨_, rfl, .inl ⟨rfl, _, SqL.of hE7⟩, _, rfl, _, rfl, _, _, rfl, SqT.of htp7, nw2, fun q4 hq4 => ?_⟩
    have k4 := same_new hq4 (.tup [.int pi.2.2.1, .int pi.2.2.2])
    have hE8 := k4 _ _ hE7
    refine ⟨E0, ev, .ref q4, rfl, rfl, hE8, ?_, ?_⟩
    · exact Nat.lt_of_lt_of_le (show ev.length < 100000 by omega) (by decide)
    have t8 : Tups H6 _ := (Tups.of k4).trans (tups_at (o := .lst (ev ++ [.ref q4])) hE8)
    refine ⟨_, _, bv ++ [.ref q3], ev ++ [.ref q4], rfl, fun b o e => ?_, ?_, ?_, upd_same, ?_⟩
    · rw [upd_ne (ne_of_none e hE1)]
      exact k4 _ _ (f6 b o (ne_of_none e hB) (sm _ _ e))
    · rw [upd_ne (Ne.symm nEB)]
      exact k4 _ _ hB7
    · rw [tk, List.map_append]
      exact paired_app (pr_all (t6.trans t8) pb2) (.cons ⟨q3, rfl, t8 _ _ hq37⟩ .nil)
    · rw [tk, List.map_append]
      exact paired_app (pr_all (t6.trans t8) pe2) (.cons ⟨q4, rfl, tups_at hE8 _ _ upd_same⟩ .nil)
  case hd =>
    rintro σ H2 ⟨z4, z5, bv, ev, rfl, sm, hB2, pb2, hE2, pe2⟩
    refine ⟨_, rfl, _, _, rfl, .inl (SqL.of (sm _ _ hM1)), ?_⟩
    have hL2 := sm _ _ hL1
    refine ⟨_, rfl, _, rfl, ⟨_, SqL.of hL2⟩, fun D hD => lc_it walk_list (fun i H' => Same H2 H' ∧ H' D = some (.lst (((ts.take i).map fun t => (t.ins : Int)).map V.int))) ⟨same_new hD _, upd_same⟩ (fun i H' _ z => SqL.of (z.1 _ _ hL2)) ?_ ?_⟩
    · rintro i x H3 H4 hi ⟨sm3, hd3⟩ ⟨rfl, hx⟩
      obtain ⟨st, hst, a, dx, p, ps', rfl, ha, hp, prs⟩ := paired_get pr hx
      have hil := lt_len hst
      refine ⟨rfl, tyI ⟨_, rfl, a, C, dx, _, _, rfl, sm3 _ _ (sm _ _ (s1 _ _ ha)), S.cl, S.nI, rfl, ?_⟩⟩
      refine ⟨_, hd3, ?_, same_at sm3 hD, ?_⟩
      · rw [List.length_map]
        exact take_len_le _ _ _ (by omega)
      · rw [upd_same, ← take_one _ hst]
        simp
    · rintro H3 ⟨sm3, hd3⟩
      rw [lt, List.take_of_length_le (Nat.le_refl _)] at hd3
      refine ⟨_, _, rfl, SqL.of hd3, _, _, rfl, rfl, _, _, rfl, rfl, _, rfl, ?_⟩
      rw [sum_ins]
      refine iteFd ?_ (q _ ((s1.trans' sm).trans' sm3))
      simp
      omega
end
end FY


set_option Elab.async false
set_option linter.all false
set_option maxRecDepth 100000
set_option maxHeartbeats 4000000
namespace FY
open PySem L2 FYR
def exitsOf (ts : List Stn) (ps : List Pipe) : List (Nat × Nat) := (linesFrom 0 ts).filter fun l => !decide (l ∈ ps.map pb)
theorem lines_le : ∀ {n : Nat} {ts : List Stn}, (∀ t ∈ ts, t.outs ≤ 2) → (linesFrom n ts).length ≤ 2 * ts.length
  | n, [], _ => Nat.le_refl 0
  | n, t :: r, h => by
    have h1 := h t (List.mem_cons_self ..)
    have h2 := lines_le (n := n + 1) (ts := r) fun x hx => h x (List.mem_cons_of_mem _ hx)
    simp only [linesFrom, List.length_append, List.length_map, List.length_range, List.length_cons]
    omega
theorem line_small {ts : List Stn} (h : ∀ t ∈ ts, t.outs ≤ 2) (hl : ts.length ≤ 100) {l : Nat × Nat} (hm : l ∈ linesFrom 0 ts) : l.1 ≤ 100 ∧ l.2 ≤ 100 := by
  obtain ⟨i, t, ht, e, lt⟩ := mem_lines hm
  have := lt_len ht
  have := h t (List.mem_of_getElem? ht)
  omega
theorem lines_take {ts : List Stn} {i : Nat} {t : Stn} (h : ts[i]? = some t) : linesFrom 0 (ts.take (i + 1)) = linesFrom 0 (ts.take i) ++ (List.range t.outs).map fun k => (i, k) := by
  have hi := lt_len h
  rw [List.take_succ, h]
  show linesFrom 0 (ts.take i ++ [t]) = _
  rw [linesFrom_app, List.length_take, Nat.min_eq_left (by omega), Nat.zero_add]
  simp [linesFrom]
theorem walk_range0 {n : Nat} : Walk (Itr 0 n) n (fun _ => True) (fun i H x H' => H' = H ∧ x = V.int (i : Nat)) := walk_range.mono (fun _ h => h) (fun i H x H' _ _ ⟨e, h⟩ => ⟨e, by rw [h]; simp⟩)
def spFree (C : Addr) : Sp := fun vs H Q _ => ∃ (L M : Addr) (us ws : List V) (ts : List Stn) (ps : List Pipe), vs = [.ref L, .ref M] ∧ H L = some (.lst us) ∧ Paired (StnA C H) us ts ∧ H M = some (.lst ws) ∧ Paired (PipeA H) ws ps ∧ (∀ p ∈ ps, PpOk ts p) ∧ (∀ t ∈ ts, t.outs ≤ 2) ∧ ts.length ≤ 100 ∧ ps.length ≤ 1000 ∧
  ∀ H' p es, Same H H' → H' p = some (.tup es) → Paired (PrA H') es (exitsOf ts ps) → Q (.ref p) H'
section
variable {P : Program} {w : World} {K : PySem.W.Frag} {mg : Str → Option Value} {base : Heap} {aS a1 a2 aL aT : Addr} {f : Addr} {fd : FuncData} {C CD CY : Addr} {mc : Value}
abbrev s_free_lines : Stmt := top 38
abbrev N_free_lines : List Str := ["stations", "pipes", "taken", "lines", "pipe", "number", "station", "line", "place"]
theorem sc_free_lines : FnScope N_free_lines ["stations", "pipes"] (defScope s_free_lines) := ⟨rfl, rfl, rfl, by decide +kernel, rfl, by decide +kernel, by decide +kernel⟩
theorem ok_free_lines (F : Fun K "free_lines" "free_lines" s_free_lines f fd) (T : Txt K mg aS a1 a2) (S : StC K mg C) : FnOk P w K mg base CX0 1 f fd ["stations", "pipes"] (spFree C) := by
  refine F.ok sc_free_lines (fun vs H Q E h => ?_) (fun cdv A outer s H vs Q E hr h => ?_)
  · obtain ⟨L, M, us, ws, ts, ps, rfl, _⟩ := h
    rfl
  obtain ⟨L, M, us, ws, ts, ps, rfl, hL, pr, hM, pp, pok, o2, mt, mp, q⟩ := h
  have lt := paired_len pr
  have lp := paired_len pp
  refine ⟨_, (pss_cons (ps_set (i := 2) sc_free_lines.nd rfl (Or.inr rfl) (pe_lc (own := [("pipe", 4)]) rfl sc_free_lines.nd (kList K rfl (pv 1)) (blkOk_by (N := N_free_lines) (sc := defScope s_free_lines) (by decide +kernel)) (fun _ _ _ _ _ => (pg_name (i := 4) sc_free_lines.nd rfl (Or.inl rfl))) (fun _ _ _ _ _ => pts_nil) (fun _ _ _ _ _ => (pe_slice (kSlT K rfl) (pv 4) po_none (po_some pe_int)))))
        (pss_cons (ps_setLc2 (i := 3) (own := [("number", 5), ("station", 6), ("line", 7)]) (vs1 := [7]) rfl sc_free_lines.nd rfl rfl (sw_true rfl rfl rfl (by decide +kernel)) (kEnum K rfl rfl T.b_enumerate (pa_cons (pv 0) pa_nil)) (blkOk_by (N := N_free_lines) (sc := defScope s_free_lines) (by decide +kernel)) (by decide) (fun _ _ _ _ _ => (kTupG (n := 2) K rfl rfl (pgs_cons (pg_name (i := 5) sc_free_lines.nd rfl (Or.inl rfl)) (pgs_cons (pg_name (i := 6) sc_free_lines.nd rfl (Or.inl rfl)) pgs_nil)))) (fun _ _ _ _ _ => pts_nil) (fun _ _ _ _ _ => (pi_range1 rfl T.b_range (pa_cons (kFld K rfl (pv 6)) pa_nil))) (fun _ _ _ _ _ => (pg_name (i := 7) sc_free_lines.nd rfl (Or.inl rfl))) (fun _ _ _ _ _ => pts_nil) (fun _ _ _ _ _ => (pe_tup (pa_cons (pv 5) (pa_cons (pv 7) pa_nil)))))
        (pss_one (ps_ret (pe_callTy (kTupOf K rfl) rfl T.b_tuple bt_tuple (pa_cons (pe_lc (own := [("place", 8)]) rfl sc_free_lines.nd (kList K rfl (pv 3)) (blkOk_by (N := N_free_lines) (sc := defScope s_free_lines) (by decide +kernel)) (fun _ _ _ _ _ => (pg_name (i := 8) sc_free_lines.nd rfl (Or.inl rfl))) (fun _ _ _ _ _ => pts_one (pt_cmpR (kNotInD K rfl (hu65 hr)) (pv 8) (pv 2) rfl)) (fun _ _ _ _ _ => (pv 8))) pa_nil)))))), ?_⟩
  -- taken
  refine ⟨_, rfl, _, rfl, ⟨_, SqL.of hM⟩, fun D1 hD1 => lc_it walk_list (fun i H' => Same H H' ∧ ∃ tv, H' D1 = some (.lst tv) ∧ Paired (PrA H') tv ((ps.take i).map pb)) ⟨same_new hD1 _, [], upd_same, .nil⟩ (fun i H' _ z => SqL.of (z.1 _ _ hM)) ?_ ?_⟩
  · rintro i x H1 H2 hi ⟨sm, tv, hd, pt⟩ ⟨rfl, hx⟩
    obtain ⟨pi, hpi, tp, rfl, htp⟩ := paired_get pp hx
    have hil := lt_len hpi
    have hlt := paired_len pt
    refine ⟨rfl, tyI ⟨_, rfl, _, rfl, _, _, rfl, SqT.of (sm _ _ htp), nwe, fun q1 hq1 => ?_⟩⟩
    have k1 := same_new hq1 (.tup [.int pi.1, .int pi.2.1])
    have hd1 := k1 _ _ hd
    refine ⟨_, hd1, ?_, same_at (sm.trans' k1) hD1, tv ++ [.ref q1], upd_same, ?_⟩
    · rw [List.length_map, List.length_take] at hlt
      exact Nat.lt_of_lt_of_le (show tv.length < 100000 by omega) (by decide)
    · rw [← take_one _ hpi]
      exact paired_app (pr_all ((Tups.of k1).trans (tups_at hd1)) pt) (.cons ⟨q1, rfl, tups_at hd1 _ _ upd_same⟩ .nil)
  rintro H1 ⟨sm1, tv, hd1, pt1⟩
  rw [lp, List.take_of_length_le (Nat.le_refl _)] at pt1
  -- lines
  have hL1 := sm1 _ _ hL
  refine ⟨_, rfl, _, _, rfl, SqL.of hL1, fun D2 hD2 => lc2_it walk_enum (fun i H' => Same H1 H' ∧ ∃ lv, H' D2 = some (.lst lv) ∧ Paired (PrA H') lv (linesFrom 0 (ts.take i))) ⟨same_new hD2 _, [], upd_same, .nil⟩ (fun i H' _ z => SqL.of (z.1 _ _ hL1)) ?_ ?_⟩
  · rintro i x H2 H3 hi ⟨sm, lv, hd, pl⟩ ⟨T0, p1, p2, rfl, hT0, rfl, hp1, hp2⟩
    obtain ⟨st, hst, a, dx, p, ps', rfl, ha, hp, prs⟩ := paired_get pr hp2
    have hil := lt_len hst
    obtain rfl : V.int (i : Nat) = p1 := by simpa using hp1
    have k0 := same_new hT0 (.tup [.int (i : Nat), .ref a])
    have ho := o2 st (List.mem_of_getElem? hst)
    have hd0 := k0 _ _ hd
    have llv := paired_len pl
    have lle := lines_le (n := 0) (ts := ts.take i) fun t ht => o2 t (List.mem_of_mem_take ht)
    rw [List.length_take] at lle
    refine ⟨_, _, rfl, SqT.of upd_same, rfl, _, _, rfl, _, _, rfl, rfl, rfl, tyI ⟨_, rfl, a, C, dx, _, _, rfl, k0 _ _ (sm _ _ (sm1 _ _ ha)), S.cl, S.nO, rfl, _, rfl, ?_, ?_, in_it walk_range0 (fun j H' => Same H1 H' ∧ ∃ lv', H' D2 = some (.lst lv') ∧ Paired (PrA H') lv' (linesFrom 0 (ts.take i) ++ (List.range j).map fun k => (i, k))) ⟨sm.trans' k0, lv, hd0, by simpa using pr_all (Tups.of k0) pl⟩ (fun _ _ _ _ => trivial) ?_ ?_⟩⟩
    · omega
    · omega
    · rintro j x H4 H5 hj ⟨sm4, lv4, hd4, pl4⟩ ⟨rfl, rfl⟩
      have hj' : j < st.outs := by omega
      have ll4 := paired_len pl4
      rw [List.length_append, List.length_map, List.length_range] at ll4
      refine ⟨rfl, tyI ⟨_, rfl, _, rfl, sz rfl, fun p6 hp6 => ?_⟩⟩
      have k6 := same_new hp6 (.tup [.int (i : Nat), .int (j : Nat)])
      have hd6 := k6 _ _ hd4
      refine ⟨_, hd6, ?_, same_at (sm4.trans' k6) hD2, lv4 ++ [.ref p6], upd_same, ?_⟩
      · exact Nat.lt_of_lt_of_le (show lv4.length < 100000 by omega) (by decide)
      · rw [List.range_succ, List.map_append, ← List.append_assoc]
        exact paired_app (pr_all ((Tups.of k6).trans (tups_at hd6)) pl4) (.cons ⟨p6, rfl, tups_at hd6 _ _ upd_same⟩ .nil)
    · rintro H4 ⟨sm4, lv4, hd4, pl4⟩
      rw [Int.toNat_natCast] at pl4
      exact ⟨sm4, lv4, hd4, by rw [lines_take hst]; exact pl4⟩
  rintro H2 ⟨sm2, lv, hd2, pl2⟩
  rw [lt, List.take_of_length_le (Nat.le_refl _)] at pl2
  have hd12 := sm2 _ _ hd1
  have pt2 := pr_all (Tups.of sm2) pt1
  have llv := paired_len pl2
  have lle := lines_le (n := 0) o2
  have smallT : ∀ l ∈ ps.map pb, l.1 ≤ 100 ∧ l.2 ≤ 100 := fun l hl => by
    obtain ⟨y, hy, rfl⟩ := List.mem_map.mp hl
    have := ppok_le (pok y hy) mt
    exact ⟨this.1, this.2.1⟩
  refine ⟨_, rfl, _, rfl, ⟨_, SqL.of hd2⟩, fun D3 hD3 => lc_it walk_list (fun i H' => Same H2 H' ∧ ∃ es, H' D3 = some (.lst es) ∧ es.length ≤ i ∧ Paired (PrA H') es (((linesFrom 0 ts).take i).filter fun l => !decide (l ∈ ps.map pb))) ⟨same_new hD3 _, [], upd_same, Nat.le_refl 0, .nil⟩ (fun i H' _ z => SqL.of (z.1 _ _ hd2)) ?_ ?_⟩
  · rintro i x H3 H4 hi ⟨sm, es, hd, le, pe3⟩ ⟨rfl, hx⟩
    obtain ⟨l, hl, hxl⟩ := paired_get pl2 hx
    have hil := lt_len hl
    have hs := line_small o2 mt (List.mem_of_getElem? hl)
    have hxl3 := hxl.keep (Tups.of sm)
    refine ⟨rfl, _, rfl, _, rfl, lnD l, _, hxl3.dp, .lst (SqL.of (sm _ _ hd12)) (dpall (fun _ _ r => r.dp) (pr_all (Tups.of sm) pt2)), (ln_nice hs).shp (by decide), (lns_nice smallT (by rw [List.length_map]; exact mp)).shp (by decide), _, rfl, ?_⟩
    rw [any_ln]
    have tk : (linesFrom 0 ts).take (i + 1) = (linesFrom 0 ts).take i ++ [l] := by rw [List.take_succ, hl]; rfl
    by_cases hm : l ∈ ps.map pb
    · rw [decide_eq_true hm]
      refine iteF ⟨sm, es, hd, by omega, ?_⟩
      rw [tk, List.filter_append, List.filter_cons_of_neg (by simp [hm]), List.filter_nil, List.append_nil]
      exact pe3
    · rw [decide_eq_false hm]
      refine iteT ⟨_, rfl, _, hd, ?_, same_at sm hD3, es ++ [x], upd_same, ?_, ?_⟩
      · exact Nat.lt_of_lt_of_le (show es.length < 100000 by omega) (by decide)
      · rw [List.length_append]
        exact Nat.succ_le_succ le
      · rw [tk, List.filter_append, List.filter_cons_of_pos (by simpa using hm), List.filter_nil]
        exact paired_app (pr_all (tups_at hd) pe3) (.cons (hxl3.keep (tups_at hd)) .nil)
  rintro H3 ⟨sm3, es, hd3, le, pe3⟩
  rw [llv, List.take_of_length_le (Nat.le_refl _)] at pe3
  refine ⟨_, _, rfl, .inl ⟨SqL.of hd3, fun p hp => ?_⟩⟩
  have k := same_new hp (.tup es)
  exact q _ p es (((sm1.trans' sm2).trans' sm3).trans' k) upd_same (pr_all (Tups.of k) pe3)
end
end FY


set_option Elab.async false
set_option linter.all false
set_option maxRecDepth 100000
set_option maxHeartbeats 4000000
namespace FY
open PySem L2 FYR
theorem dcT_it {J : It} {n : Nat} {G : Hp → Prop} {Y : Nat → Hp → V → Hp → Prop} (w : Walk J n G Y) {g : TG} {tt : TT} {tk tv : TE} {vs : List Nat} {σ : St} {H1 : Hp} {D : Addr} {Qd : Hp → Prop} (Pv : Nat → Hp → Prop) (h0 : Pv 0 (upd H1 D (.dT []))) (hG : ∀ i H, i ≤ n → Pv i H → G H)
    (hs : ∀ i x H H', i < n → Pv i H → Y i H x H' → g x (wipe σ vs) H' fun σ2 H2 => wipe σ2 vs = wipe σ vs ∧ tt σ2 H2 fun b H3 =>
      if b = true then tk σ2 H3 fun y H4 => tv σ2 H4 fun z H5 => ∃ kvs k a, y = .ref a ∧ H5 a = some (.tup (k.map kV)) ∧ H5 D = some (.dT kvs) ∧ kvs.length < sizeLine ∧ Pv (i + 1) (upd H5 D (.dT (putK kvs k z))) else Pv (i + 1) H3) (hd : ∀ H, Pv n H → Qd H) :
    ∃ W : Nat → Nat → Hp → Prop, (∃ m, W 0 m (upd H1 D (.dT []))) ∧ ∀ i m H, W i m H → (J.stop i H ∧ Qd H) ∨ (J.go i H ∧ ∃ Nx : Hp → Prop, (∀ H', Nx H' → ∃ m', m' < m ∧ W (i + 1) m' H') ∧ ∀ x H', J.yld i H x H' → g x (wipe σ vs) H' fun σ2 H2 => wipe σ2 vs = wipe σ vs ∧ tt σ2 H2 fun b H3 =>
        if b = true then tk σ2 H3 fun y H4 => tv σ2 H4 fun z H5 => ∃ kvs k a, y = .ref a ∧ H5 a = some (.tup (k.map kV)) ∧ H5 D = some (.dT kvs) ∧ kvs.length < sizeLine ∧ Nx (upd H5 D (.dT (putK kvs k z))) else Nx H3) := by
  refine ⟨fun i m H => m = n - i ∧ i ≤ n ∧ Pv i H, ⟨n, by simp, Nat.zero_le _, h0⟩, ?_⟩
  rintro i m H ⟨rfl, hi, p⟩
  have q := hG i H hi p
  by_cases hlt : i < n
  · exact .inr ⟨w.goes i H hlt q, Pv (i + 1), (fun H' p' => ⟨n - (i + 1), by omega, rfl, hlt, p'⟩), fun x H' y => hs i x H H' hlt p (w.yields i H x H' hlt q y)⟩
  · obtain rfl : i = n := by omega
    exact .inl ⟨w.stops H q, hd H p⟩
/-! ## sorted pipes -/
def codeP (p : Pipe) : Int := TS.code 128 [(p.1 : Int), (p.2.1 : Int), (p.2.2.1 : Int), (p.2.2.2 : Int)]
theorem codeP_eq (p : Pipe) : codeP p = (p.1 : Int) * 2097152 + ((p.2.1 : Int) * 16384 + ((p.2.2.1 : Int) * 128 + (p.2.2.2 : Int))) := by
  show (p.1 : Int) * 128 ^ 3 + ((p.2.1 : Int) * 128 ^ 2 + ((p.2.2.1 : Int) * 128 ^ 1 + ((p.2.2.2 : Int) * 128 ^ 0 + 0))) = _
  rw [show (128 : Int) ^ 3 = 2097152 from by decide, show (128 : Int) ^ 2 = 16384 from by decide, show (128 : Int) ^ 1 = 128 from by decide, show (128 : Int) ^ 0 = 1 from by decide]
  omega
def srt (ps : List Pipe) : List Pipe := ps.mergeSort fun a b => decide (codeP a ≤ codeP b)
abbrev SmP (p : Pipe) : Prop := p.1 ≤ 100 ∧ p.2.1 ≤ 100 ∧ p.2.2.1 ≤ 100 ∧ p.2.2.2 ≤ 100
theorem codeP_inj {a b : Pipe} (ha : SmP a) (hb : SmP b) (h : codeP a = codeP b) : a = b := by
  obtain ⟨a1, a2, a3, a4⟩ := a
  obtain ⟨b1, b2, b3, b4⟩ := b
  obtain ⟨h1, h2, h3, h4⟩ := ha
  obtain ⟨g1, g2, g3, g4⟩ := hb
  rw [codeP_eq, codeP_eq] at h
  simp only at *
  have : a1 = b1 ∧ a2 = b2 ∧ a3 = b3 ∧ a4 = b4 := by omega
  obtain ⟨rfl, rfl, rfl, rfl⟩ := this
  rfl
theorem srt_perm (ps : List Pipe) : (srt ps).Perm ps := List.mergeSort_perm _ _
theorem srt_eq {ps qs : List Pipe} (hs : ∀ p ∈ ps, SmP p) (hp : qs.Perm ps) (ho : qs.Pairwise fun a b => codeP a ≤ codeP b) : qs = srt ps := by
  refine List.Perm.eq_of_pairwise (le := fun a b => codeP a ≤ codeP b) (fun a b ha hb h1 h2 => codeP_inj (hs a (hp.mem_iff.mp ha)) (hs b ((srt_perm ps).mem_iff.mp hb)) (by omega)) ho ?_ (hp.trans (srt_perm ps).symm)
  have z := List.pairwise_mergeSort (le := fun a b => decide (codeP a ≤ codeP b)) (fun a b c h1 h2 => by simp at *; omega) (fun a b => by simp; omega) ps
  exact z.imp fun h => by simpa using h
theorem paired_perm {α β : Type} {R : α → β → Prop} {xs ys : List α} (hp : ys.Perm xs) : ∀ {bs : List β}, Paired R xs bs → ∃ cs, cs.Perm bs ∧ Paired R ys cs := by
  induction hp with
  | nil => intro bs h; exact ⟨bs, List.Perm.refl _, h⟩
  | cons x _ ih =>
    intro bs h
    cases h with
    | cons r q =>
      obtain ⟨cs, h1, h2⟩ := ih q
      exact ⟨_ :: cs, h1.cons _, .cons r h2⟩
  | swap x y l =>
    intro bs h
    cases h with
    | cons r q =>
      cases q with
      | cons r2 q2 => exact ⟨_, List.Perm.swap _ _ _, .cons r2 (.cons r q2)⟩
  | trans _ _ i1 i2 =>
    intro bs h
    obtain ⟨cs, h1, h2⟩ := i2 h
    obtain ⟨ds, h3, h4⟩ := i1 h2
    exact ⟨ds, h3.trans h1, h4⟩
theorem paired_pw {α β : Type} {R : α → β → Prop} {S : α → α → Prop} {U : β → β → Prop} (h : ∀ x y a b, R x a → R y b → S x y → U a b) : ∀ {xs : List α} {bs : List β}, Paired R xs bs → xs.Pairwise S → bs.Pairwise U
  | _, _, .nil, _ => .nil
  | _, _, .cons r q, p => by
    obtain ⟨p1, p2⟩ := List.pairwise_cons.mp p
    refine List.pairwise_cons.mpr ⟨fun b hb => ?_, paired_pw h q p2⟩
    obtain ⟨i, hi⟩ := List.mem_iff_getElem?.mp hb
    obtain ⟨y, hy, ry⟩ := paired_at q hi
    exact h _ _ _ _ r ry (p1 y (List.mem_of_getElem? hy))
theorem putF_new {f : Str} {v : V} : ∀ {fs : List (Str × V)} (ns : List Str), fs.map (·.1) = ns → ns.contains f = false → putF f v fs = fs ++ [(f, v)]
  | [], _, _, _ => rfl
  | (x, y) :: r, ns, e, h => by
    subst e
    simp only [List.map_cons, List.contains_cons, Bool.or_eq_false_iff] at h
    have hx : ¬ x = f := fun z => by rw [z] at h; simp at h
    show (if x = f then _ else (x, y) :: putF f v r) = _
    rw [if_neg hx, putF_new (r.map (·.1)) rfl h.2]
    rfl
/-! ## yards -/
def yflds (a b c d e f : Addr) : List (Str × V) := [("own_stations", .ref a), ("own_pipes", .ref b), ("own_exits", .ref c), ("own_begin", .ref d), ("own_into", .ref e), ("own_onto", .ref f)]
def BgA (H : Hp) (d : Addr) (n m : Nat) : Prop := ∃ d1 d2, H d = some (.tup [.ref d1, .ref d2]) ∧ H d1 = some (.tup (List.replicate n (.int 0))) ∧ H d2 = some (.tup (List.replicate m (.str "")))
structure YdA (CY C : Addr) (H : Hp) (y : Addr) (ts : List Stn) (ps : List Pipe) : Prop where
  ob : ∃ dx a b c d e f, H y = some (.ins CY dx (yflds a b c d e f)) ∧ (∃ us, H a = some (.tup us) ∧ Paired (StnA C H) us ts) ∧ (∃ ws, H b = some (.tup ws) ∧ Paired (PipeA H) ws (srt ps)) ∧ (∃ es, H c = some (.tup es) ∧ Paired (PrA H) es (exitsOf ts ps)) ∧ BgA H d ts.length ps.length
structure YdOk (ts : List Stn) (ps : List Pipe) : Prop where
  m1 : 1 ≤ ts.length
  m2 : ts.length ≤ 12
  hd : ∀ t, ts.head? = some t → t.ins = 1
  ok : ∀ t ∈ ts, t.ok
  pp : ∀ p ∈ ps, PpOk ts p
  nb : (ps.map pb).Nodup
  ne : (ps.map pe).Nodup
  sm : sumIns ts ≤ ps.length + 1
  mp : ps.length < 64
  ex : (exitsOf ts ps).length ≤ 3
  ap : ps ≠ [] ∨ (exitsOf ts ps).length ≤ 1
structure YdF (K : PySem.W.Frag) (CY : Addr) : Prop where
  cl : Cls K CY
  nS : NoAttr K CY "own_stations"
  nP : NoAttr K CY "own_pipes"
  nX : NoAttr K CY "own_exits"
  nB : NoAttr K CY "own_begin"
  nI : NoAttr K CY "own_into"
  nO : NoAttr K CY "own_onto"
  me : ∃ u, Con K CY "MOST_EXITS" (.int 3) u
def spYdInit (CY C : Addr) : Sp := fun vs H Q _ => ∃ (y dx L M : Addr) (us ws : List V) (ts : List Stn) (ps : List Pipe), vs = [.ref y, .ref L, .ref M, .non] ∧ H y = some (.ins CY dx []) ∧ H L = some (.lst us) ∧ Paired (StnA C H) us ts ∧ H M = some (.lst ws) ∧ Paired (PipeA H) ws ps ∧ YdOk ts ps ∧
  ∀ H', But y H H' → YdA CY C H' y ts ps → Q .non H'
theorem StnA.but {y CY C dx : Addr} {H H' : Hp} (k : But y H H') (hy : H y = some (.ins CY dx [])) {v : V} {t : Stn} (h : StnA C H v t) : StnA C H' v t := by
  obtain ⟨a, da, p, ps, e, h1, h2, pr⟩ := h
  have tu := k.tups hy
  refine ⟨a, da, p, ps, e, k a _ (fun z => ?_) h1, tu _ _ h2, sgA_all tu pr⟩
  rw [z, hy] at h1
  cases h1
theorem stn_but {y CY C dx : Addr} {H H' : Hp} (k : But y H H') (hy : H y = some (.ins CY dx [])) : ∀ {vs : List V} {ts : List Stn}, Paired (StnA C H) vs ts → Paired (StnA C H') vs ts
  | _, _, .nil => .nil
  | _, _, .cons r q => .cons (r.but k hy) (stn_but k hy q)
theorem But.trans {y : Addr} {H H1 H2 : Hp} (a : But y H H1) (b : But y H1 H2) : But y H H2 := fun c o n e => b c o n (a c o n e)
theorem But.of {y : Addr} {H H1 : Hp} (a : Same H H1) : But y H H1 := fun c o _ e => a c o e
theorem But.at {y : Addr} {H : Hp} {o : HO} : But y H (upd H y o) := fun c u n e => by rw [upd_ne n]; exact e
theorem putK_ne {κ : Type} [DecidableEq κ] (kvs : List (κ × V)) (k : κ) (v : V) : putK kvs k v ≠ [] := by
  unfold putK
  split
  · rename_i h
    intro z
    rw [List.map_eq_nil_iff] at z
    subst z
    simp at h
  · simp
theorem repA_of {K : PySem.W.Frag} {H : Hp} {d : Addr} {x : V} {k : Nat} {Q : VK} (hd : H d = some (.tup [x])) (hk : k ≤ 1000) (q : ∀ H' p, Same H H' → H' p = some (.tup (List.replicate k x)) → Q (.ref p) H') : rRepA K (.ref d) (.int (k : Nat)) H Q := by
  refine ⟨d, k, [x], rfl, rfl, SqT.of hd, by simp, hk, (by decide : 1 ≤ 1000), fun e => ?_, fun _ p hp => ?_⟩
  · subst e
    exact q H d (Same.refl _) hd
  · have e : (List.replicate k [x]).flatten = List.replicate k x := by
      clear q hk
      induction k with
      | zero => rfl
      | succ k ih => simp [List.replicate_succ, ih]
    rw [e]
    exact q _ p (same_new hp _) upd_same
theorem okD0 {P : Program} {w : World} {K : PySem.W.Frag} {mg : Str → Option Value} {base : Heap} {x qual : Str} {params : Arguments} {body : List Stmt} {scope : Scope} {dvs : List V} {kws : List (Str × V)} {f : Addr} {fd : FuncData} {N ps : List Str} {k : Nat} {sp : Sp} (F : FunD K x qual params body scope dvs kws f fd) (S : FnScope N ps scope) (len : ∀ vs H Q E, sp vs H Q E → vs.length = ps.length)
    (hbody : ∀ (cdv : Value) (A : Around) (outer : List Env) (s : Shared) (H : Hp) (vs : List V) (Q : VK) (E : XK), Room k (A.deeper (PyProof.Rows.envOfC qual scope s.heap.objs.size f cdv)) → sp vs H Q E →
      ∃ t, PSs (cxOf CX0 P w K mg base N qual scope f cdv A outer s H E).nox body t ∧ t { nx := fun _ H' => Q .non H', rt := Q } (start N vs) H) : FnOk P w K mg base CX0 (k + 1) f fd ps sp :=
  F.ok S len fun cdv A outer s H vs Q E hr h => by
    obtain ⟨t, h, q⟩ := hbody cdv A outer s H vs Q E hr h
    exact ⟨t, h.nox, q⟩
def spNever : Sp := fun vs _ _ _ => vs.length = 2 ∧ False
section
variable {P : Program} {w : World} {K : PySem.W.Frag} {mg : Str → Option Value} {base : Heap} {aS a1 a2 aL aT : Addr} {f : Addr} {fd : FuncData} {C CD CY : Addr} {mc : Value}
abbrev s_Yard___init__ : Stmt := inClass (top 40) 2
abbrev N_Yard___init__ : List Str := ["self", "stations", "pipes", "begin", "place", "pipe", "number", "line"]
theorem sc_Yard___init__ : FnScope N_Yard___init__ ["self", "stations", "pipes", "begin"] (defScope s_Yard___init__) := ⟨rfl, rfl, rfl, by decide +kernel, rfl, by decide +kernel, by decide +kernel⟩
theorem ok_Yard_init (F : FunD K "__init__" "Yard.__init__" (defArgs s_Yard___init__) (defBody s_Yard___init__) (defScope s_Yard___init__) [.non] [] f fd) (T : Txt K mg aS a1 a2) (Y : YdF K CY) (c_want_stations : C8.Cal P w K mg base 2 "want_stations" (spWantSt C) []) (c_want_pipes : C8.Cal P w K mg base 5 "want_pipes" (spWantPp C) []) (c_free_lines : C8.Cal P w K mg base 1 "free_lines" (spFree C) []) (c_is_begin : C8.Cal P w K mg base 1 "is_begin" spNever []) : FnOk P w K mg base CX0 6 f fd ["self", "stations", "pipes", "begin"] (spYdInit CY C) := by
  refine okD0 F sc_Yard___init__ (fun vs H Q E h => ?_) (fun cdv A outer s H vs Q E hr h => ?_)
  · obtain ⟨y, dx, L, M, us, ws, ts, ps, rfl, _⟩ := h
    rfl
  obtain ⟨y, dx, L, M, us, ws, ts, ps, rfl, hy, hL, pr, hM, pp, ok, q⟩ := h
  have lt := paired_len pr
  have lp := paired_len pp
  have m1 := ok.m1
  have m2 := ok.m2
  have mp := ok.mp
  refine ⟨_, (pss_cons (ps_expr (C8.pe_c c_want_stations hr (by decide) rfl (pa_cons (pv 1) pa_nil)))
        (pss_cons (ps_expr (C8.pe_c c_want_pipes hr (by decide) rfl (pa_cons (pv 1) (pa_cons (pv 2) pa_nil))))
        (pss_cons (kSetF K rfl (pv 0) (pe_callTy (kTupOf K rfl) rfl T.b_tuple bt_tuple (pa_cons (pv 1) pa_nil)))
        (pss_cons (kSetF K rfl (pv 0) (pe_callTy (kTupOf K rfl) rfl T.b_tuple bt_tuple (pa_cons (pe_callB (kSortT K (d := 4) (B := 128) rfl (by decide)) rfl T.b_sorted bt_sorted (pa_cons (pv 2) pa_nil)) pa_nil)))
        (pss_cons (kSetF K rfl (pv 0) (C8.pe_c c_free_lines hr (by decide) rfl (pa_cons (pv 1) (pa_cons (pv 2) pa_nil))))
        (pss_cons (ps_if (PW.pt (pw_and (pt_cmp (pc_notN (pv 3))) (pw_and1 (pt_not (pt_val (C8.pe_c c_is_begin hr (by decide) rfl (pa_cons (pv 0) (pa_cons (pv 3) pa_nil))))))))
        (pss_one ps_never)
        pss_nil)
        (pss_cons (ps_if (pt_cmpR op_gt (pe_callB (kLen K rfl) rfl T.b_len bt_len (pa_cons (kFld K rfl (pv 0)) pa_nil)) (kCon K rfl (pv 0)) (nomark _))
        (pss_one ps_never)
        pss_nil)
        (pss_cons (kSetF K rfl (pv 0) (pe_ifExp (pt_cmp (pc_notN (pv 3))) (pv 3) (pe_tup (pa_cons (pe_op (kRepA K rfl) (pe_tup (pa_cons pe_int pa_nil)) (pe_callB (kLen K rfl) rfl T.b_len bt_len (pa_cons (kFld K rfl (pv 0)) pa_nil))) (pa_cons (pe_op (kRepA K rfl) (pe_tup (pa_cons pe_str pa_nil)) (pe_callB (kLen K rfl) rfl T.b_len bt_len (pa_cons (kFld K rfl (pv 0)) pa_nil))) pa_nil)))))
        (pss_cons (kSetF K rfl (pv 0) (pe_dcT (own := [("place", 4), ("pipe", 5)]) rfl sc_Yard___init__.nd hr.units0 (pi_enumT K rfl rfl T.b_enumerate (pa_cons (kFld K rfl (pv 0)) pa_nil)) (blkOk_by (N := N_Yard___init__) (sc := defScope s_Yard___init__) (by decide +kernel)) (fun _ _ _ _ _ => (kTupG (n := 2) K rfl rfl (pgs_cons (pg_name (i := 4) sc_Yard___init__.nd rfl (Or.inl rfl)) (pgs_cons (pg_name (i := 5) sc_Yard___init__.nd rfl (Or.inl rfl)) pgs_nil)))) (fun _ _ _ _ _ => pts_nil) (fun _ _ _ _ _ => (pe_slice (kSlT K rfl) (pv 5) (po_some pe_int) po_none)) (fun _ _ _ _ _ => (pv 4))))
        (pss_cons (kSetF K rfl (pv 0) (pe_dcT (own := [("place", 4), ("pipe", 5)]) rfl sc_Yard___init__.nd hr.units0 (pi_enumT K rfl rfl T.b_enumerate (pa_cons (kFld K rfl (pv 0)) pa_nil)) (blkOk_by (N := N_Yard___init__) (sc := defScope s_Yard___init__) (by decide +kernel)) (fun _ _ _ _ _ => (kTupG (n := 2) K rfl rfl (pgs_cons (pg_name (i := 4) sc_Yard___init__.nd rfl (Or.inl rfl)) (pgs_cons (pg_name (i := 5) sc_Yard___init__.nd rfl (Or.inl rfl)) pgs_nil)))) (fun _ _ _ _ _ => pts_nil) (fun _ _ _ _ _ => (pe_slice (kSlT K rfl) (pv 5) po_none (po_some pe_int))) (fun _ _ _ _ _ => (pe_tup (pa_cons pe_bl (pa_cons (pv 4) pa_nil))))))
        (pss_one (ps_expr (kBm K rfl PySem.F.plainAttrs_dict PySem.F.slot_dict_update PySem.F.type_dict_update (mt_updT (hu1 hr)) (kFld K rfl (pv 0)) (pa_cons (pe_dcT (own := [("number", 6), ("line", 7)]) rfl sc_Yard___init__.nd hr.units0 (pi_enumT K rfl rfl T.b_enumerate (pa_cons (kFld K rfl (pv 0)) pa_nil)) (blkOk_by (N := N_Yard___init__) (sc := defScope s_Yard___init__) (by decide +kernel)) (fun _ _ _ _ _ => (kTupG (n := 2) K rfl rfl (pgs_cons (pg_name (i := 6) sc_Yard___init__.nd rfl (Or.inl rfl)) (pgs_cons (pg_name (i := 7) sc_Yard___init__.nd rfl (Or.inl rfl)) pgs_nil)))) (fun _ _ _ _ _ => pts_nil) (fun _ _ _ _ _ => (pv 7)) (fun _ _ _ _ _ => (pe_tup (pa_cons pe_bl (pa_cons (pv 6) pa_nil))))) pa_nil)))))))))))))), ?_⟩
  refine ⟨_, rfl, L, us, ts, rfl, hL, pr, m1, m2, ok.hd, fun H1 s1 => ?_⟩
  refine ⟨_, rfl, _, rfl, L, M, us, ws, ts, ps, rfl, s1 _ _ hL, stn_all (NL.of s1) pr, s1 _ _ hM, pipe_all (Tups.of s1) pp, ok.pp, ok.nb, ok.ne, ok.sm, by omega, by omega, fun H2 s2 => ?_⟩
  have s12 := s1.trans' s2
  -- own_stations
  refine ⟨_, rfl, _, _, rfl, .inl ⟨SqL.of (s12 _ _ hL), fun p1 hp1 => ?_⟩⟩
  have k1 := same_new hp1 (.tup us)
  have hy1 := k1 _ _ (s12 _ _ hy)
  refine ⟨_, rfl, y, CY, dx, _, rfl, hy1, Y.cl, Y.nS, by decide, ?_⟩
  rw [putF_new [] rfl rfl]
  obtain ⟨H3, hH3⟩ : ∃ H3, H3 = upd (upd H2 p1 (.tup us)) y (.ins CY dx ([] ++ [(("own_stations" : Str), V.ref p1)])) := ⟨_, rfl⟩
  have b3 : But y H H3 := by rw [hH3]; exact (But.of (s12.trans' k1)).trans But.at
  have hy3 : H3 y = some (.ins CY dx [("own_stations", .ref p1)]) := by rw [hH3, upd_same]; rfl
  have hp13 : H3 p1 = some (.tup us) := by rw [hH3, upd_ne (Ne.symm (ne_of_none (s12 _ _ hy) hp1))]; exact upd_same
  rw [← hH3]
  clear hH3
  have t3 := b3.tups hy
  -- own_pipes
  refine ⟨_, rfl, M, ws, rfl, SqL.of (b3.lst hy hM), by omega, fun x hx => ?_, fun zs p2 pz sz2 hp2 => ?_⟩
  · obtain ⟨i, hi⟩ := List.mem_iff_getElem?.mp hx
    obtain ⟨pi, hpi, tp, rfl, htp⟩ := paired_get pp hi
    have sm := ppok_le (ok.pp pi (List.mem_of_getElem? hpi)) (by omega)
    refine ⟨[(pi.1 : Int), (pi.2.1 : Int), (pi.2.2.1 : Int), (pi.2.2.2 : Int)], ⟨tp, rfl, SqT.of (t3 _ _ htp)⟩, rfl, fun m hm => ?_⟩
    simp only [List.mem_cons, List.not_mem_nil, or_false] at hm
    rcases hm with rfl | rfl | rfl | rfl <;> omega
  have pp3 := pipe_all t3 pp
  obtain ⟨qs, pq, pz3⟩ := paired_perm pz pp3
  have eq : qs = srt ps := srt_eq (fun p hp => ppok_le (ok.pp p hp) (by omega)) pq (paired_pw (fun x y a b ra rb sxy => by
    obtain ⟨ta, rfl, hta⟩ := ra
    obtain ⟨tb, rfl, htb⟩ := rb
    exact sxy [(a.1 : Int), (a.2.1 : Int), (a.2.2.1 : Int), (a.2.2.2 : Int)] [(b.1 : Int), (b.2.1 : Int), (b.2.2.1 : Int), (b.2.2.2 : Int)] ⟨ta, rfl, SqT.of hta⟩ ⟨tb, rfl, SqT.of htb⟩) pz3 sz2)
  subst eq
  have k2 := same_new hp2 (.lst zs)
  refine ⟨_, _, rfl, .inl ⟨SqL.of upd_same, fun p3 hp3 => ?_⟩⟩
  have k3 := same_new hp3 (.tup zs)
  have k23 := k2.trans' k3
  refine ⟨_, rfl, y, CY, dx, _, rfl, k23 _ _ hy3, Y.cl, Y.nP, Nat.lt_of_lt_of_le (Nat.lt_succ_self 1) (by decide : 2 ≤ 1000), ?_⟩
  rw [putF_new ["own_stations"] rfl (by decide +kernel)]
  obtain ⟨H4, hH4⟩ : ∃ H4, H4 = upd (upd (upd H3 p2 (.lst zs)) p3 (.tup zs)) y (.ins CY dx ([(("own_stations" : Str), V.ref p1)] ++ [(("own_pipes" : Str), V.ref p3)])) := ⟨_, rfl⟩
  have b34 : But y H3 H4 := by rw [hH4]; exact (But.of k23).trans But.at
  have b4 : But y H H4 := b3.trans b34
  have hy4 : H4 y = some (.ins CY dx [("own_stations", .ref p1), ("own_pipes", .ref p3)]) := by rw [hH4, upd_same]; rfl
  have hp34 : H4 p3 = some (.tup zs) := by rw [hH4, upd_ne (Ne.symm (ne_of_none (k2 _ _ hy3) hp3))]; exact upd_same
  have ny1 : p1 ≠ y := fun z => by rw [z, hy3] at hp13; cases hp13
  have hp14 : H4 p1 = some (.tup us) := b34 _ _ ny1 hp13
  rw [← hH4]
  clear hH4
  have t34 := b34.tups hy3
  have pz4 := pipe_all t34 pz3
  -- own_exits
  have o2 : ∀ t ∈ ts, t.outs ≤ 2 := fun t ht => (ok.ok t ht).o2
  refine ⟨_, rfl, _, rfl, L, M, us, ws, ts, ps, rfl, b4.lst hy hL, stn_but b4 hy pr, b4.lst hy hM, pipe_all (b4.tups hy) pp, ok.pp, o2, by omega, by omega, fun H5 c es s5 hc pe5 => ?_⟩
  refine ⟨_, rfl, y, CY, dx, _, rfl, s5 _ _ hy4, Y.cl, Y.nX, Nat.lt_of_lt_of_le (Nat.lt_succ_self 2) (by decide : 3 ≤ 1000), ?_⟩
  rw [putF_new ["own_stations", "own_pipes"] rfl (by decide +kernel)]
  obtain ⟨H6, hH6⟩ : ∃ H6, H6 = upd H5 y (.ins CY dx ([(("own_stations" : Str), V.ref p1), (("own_pipes" : Str), V.ref p3)] ++ [(("own_exits" : Str), V.ref c)])) := ⟨_, rfl⟩
  have b56 : But y H5 H6 := by rw [hH6]; exact But.at
  have b46 : But y H4 H6 := (But.of s5).trans b56
  have b6 : But y H H6 := b4.trans b46
  have hy6 : H6 y = some (.ins CY dx [("own_stations", .ref p1), ("own_pipes", .ref p3), ("own_exits", .ref c)]) := by rw [hH6, upd_same]; rfl
  rw [← hH6]
  clear hH6
  have t56 := b56.tups (s5 _ _ hy4)
  have hc6 := t56 _ _ hc
  have pe6 := pr_all t56 pe5
  have le6 := paired_len pe6
  have hex := ok.ex
  -- begin is not None and ..
  refine ⟨_, rfl, _, rfl, iteFd (by decide +kernel) (iteF ?_)⟩
  obtain ⟨u3, hu3⟩ := Y.me
  refine ⟨_, rfl, y, CY, dx, _, _, rfl, hy6, Y.cl, Y.nX, rfl, _, _, rfl, .inr (SqT.of hc6), _, rfl, y, CY, dx, _, _, u3, rfl, hy6, Y.cl, hu3, rfl, _, _, rfl, rfl, _, rfl, iteFd (by simp; omega) ?_⟩
  -- own_begin
  have hp16 := b46 _ _ ny1 hp14
  have ny3 : p3 ≠ y := fun z => by rw [z, hy4] at hp34; cases hp34
  have hp36 := b46 _ _ ny3 hp34
  have pz6 := pipe_all (b46.tups hy4) pz4
  have lz := paired_len pz6
  have lsrt : (srt ps).length = ps.length := (srt_perm ps).length_eq
  refine ⟨_, rfl, _, rfl, iteFd (by decide +kernel) ?_⟩
  refine ⟨sz rfl, fun d0 hd0 => ?_⟩
  have k7 := same_new hd0 (.tup [.int 0])
  refine ⟨_, rfl, y, CY, dx, _, _, rfl, k7 _ _ hy6, Y.cl, Y.nS, rfl, _, _, rfl, .inr (SqT.of (k7 _ _ hp16)), ?_⟩
  refine repA_of upd_same (by omega) fun H8 d1 s8 hd1 => ?_
  refine ⟨sz rfl, fun d3 hd3 => ?_⟩
  have k9 := same_new hd3 (.tup [.str ""])
  have s69 := (k7.trans' s8).trans' k9
  refine ⟨_, rfl, y, CY, dx, _, _, rfl, s69 _ _ hy6, Y.cl, Y.nP, rfl, _, _, rfl, .inr (SqT.of (s69 _ _ hp36)), ?_⟩
  refine repA_of upd_same (by omega) fun H10 d2 s10 hd2 => ?_
  refine ⟨sz rfl, fun d hd => ?_⟩
  have k11 := same_new hd (.tup [.ref d1, .ref d2])
  have s611 := (s69.trans' s10).trans' k11
  refine ⟨_, rfl, y, CY, dx, _, rfl, s611 _ _ hy6, Y.cl, Y.nB, Nat.lt_of_lt_of_le (Nat.lt_succ_self 3) (by decide : 4 ≤ 1000), ?_⟩
  rw [putF_new ["own_stations", "own_pipes", "own_exits"] rfl (by decide +kernel)]
  obtain ⟨H12, hH12⟩ : ∃ H12, H12 = upd (upd H10 d (.tup [.ref d1, .ref d2])) y (.ins CY dx ([(("own_stations" : Str), V.ref p1), (("own_pipes" : Str), V.ref p3), (("own_exits" : Str), V.ref c)] ++ [(("own_begin" : Str), V.ref d)])) := ⟨_, rfl⟩
  have b1112 : But y (upd H10 d (.tup [.ref d1, .ref d2])) H12 := by rw [hH12]; exact But.at
  have b612 : But y H6 H12 := (But.of s611).trans b1112
  have hy12 : H12 y = some (.ins CY dx [("own_stations", .ref p1), ("own_pipes", .ref p3), ("own_exits", .ref c), ("own_begin", .ref d)]) := by rw [hH12, upd_same]; rfl
  have t1112 := b1112.tups (s611 _ _ hy6)
  have bg : BgA H12 d ts.length ps.length := ⟨d1, d2, t1112 _ _ upd_same, by rw [← lt]; exact t1112 _ _ (k11 _ _ (s10 _ _ (k9 _ _ hd1))), by rw [← lsrt, ← lz]; exact t1112 _ _ (k11 _ _ hd2)⟩
  rw [← hH12]
  clear hH12
  have b12 := b6.trans b612
  have t612 := b612.tups hy6
  -- own_into
  have hp312 := t612 _ _ hp36
  have pz12 := pipe_all t612 pz6
  have hc12 := t612 _ _ hc6
  have pe12 := pr_all t612 pe6
  refine ⟨_, rfl, y, CY, dx, _, _, rfl, hy12, Y.cl, Y.nP, rfl, _, _, rfl, SqT.of hp312, fun D hD => dcT_it walk_enumT (fun i H' => Same H12 H' ∧ ∃ kvs, H' D = some (.dT kvs) ∧ kvs.length ≤ i) ⟨same_new hD _, [], upd_same, Nat.le_refl 0⟩ (fun i H' _ z => SqT.of (z.1 _ _ hp312)) ?_ ?_⟩
  · rintro i x G1 G2 hi ⟨sm, kvs, hk, lk⟩ ⟨T0, i1, i2, rfl, hT0, rfl, hi1, hi2⟩
    obtain ⟨pi, hpi, tp, rfl, htp⟩ := paired_get pz12 hi2
    have k0 := same_new hT0 (.tup [i1, .ref tp])
    have hil := lt_len hpi
    refine ⟨_, _, rfl, SqT.of upd_same, rfl, _, _, rfl, _, _, rfl, rfl, rfl, tyI ⟨_, rfl, _, rfl, _, _, rfl, SqT.of (k0 _ _ (sm _ _ htp)), nw2, fun q1 hq1 => ⟨_, rfl, ?_⟩⟩⟩
    have k1 := same_new hq1 (.tup [.int pi.2.2.1, .int pi.2.2.2])
    refine ⟨kvs, [.inl (pi.2.2.1 : Int), .inl (pi.2.2.2 : Int)], q1, rfl, upd_same, k1 _ _ (k0 _ _ hk), ?_, same_at ((sm.trans' k0).trans' k1) hD, _, upd_same, ?_⟩
    · exact Nat.lt_of_lt_of_le (show kvs.length < 100000 by omega) (by decide)
    · exact Nat.le_trans (length_putK _ _ _) (Nat.succ_le_succ lk)
  rintro H13 ⟨s13, kvs1, hk1, _⟩
  refine ⟨_, rfl, y, CY, dx, _, rfl, s13 _ _ hy12, Y.cl, Y.nI, Nat.lt_of_lt_of_le (Nat.lt_succ_self 4) (by decide : 5 ≤ 1000), ?_⟩
  rw [putF_new ["own_stations", "own_pipes", "own_exits", "own_begin"] rfl (by decide +kernel)]
  obtain ⟨H14, hH14⟩ : ∃ H14, H14 = upd H13 y (.ins CY dx ([(("own_stations" : Str), V.ref p1), (("own_pipes" : Str), V.ref p3), (("own_exits" : Str), V.ref c), (("own_begin" : Str), V.ref d)] ++ [(("own_into" : Str), V.ref D)])) := ⟨_, rfl⟩
  have b1214 : But y H12 H14 := by rw [hH14]; exact (But.of s13).trans But.at
  have hy14 : H14 y = some (.ins CY dx [("own_stations", .ref p1), ("own_pipes", .ref p3), ("own_exits", .ref c), ("own_begin", .ref d), ("own_into", .ref D)]) := by rw [hH14, upd_same]; rfl
  rw [← hH14]
  clear hH14
  have t1214 := b1214.tups hy12
  have hp314 := t1214 _ _ hp312
  have pz14 := pipe_all t1214 pz12
  -- own_onto
  refine ⟨_, rfl, y, CY, dx, _, _, rfl, hy14, Y.cl, Y.nP, rfl, _, _, rfl, SqT.of hp314, fun D2 hD2 => dcT_it walk_enumT (fun i H' => Same H14 H' ∧ ∃ kvs, H' D2 = some (.dT kvs) ∧ kvs.length ≤ i ∧ (i ≠ 0 → kvs ≠ [])) ⟨same_new hD2 _, [], upd_same, Nat.le_refl 0, fun z => absurd rfl z⟩ (fun i H' _ z => SqT.of (z.1 _ _ hp314)) ?_ ?_⟩
  · rintro i x G1 G2 hi ⟨sm, kvs, hk, lk, _⟩ ⟨T0, i1, i2, rfl, hT0, rfl, hi1, hi2⟩
    obtain ⟨pi, hpi, tp, rfl, htp⟩ := paired_get pz14 hi2
    have k0 := same_new hT0 (.tup [i1, .ref tp])
    have hil := lt_len hpi
    refine ⟨_, _, rfl, SqT.of upd_same, rfl, _, _, rfl, _, _, rfl, rfl, rfl, tyI ⟨_, rfl, _, rfl, _, _, rfl, SqT.of (k0 _ _ (sm _ _ htp)), nwe, fun q1 hq1 => ⟨_, rfl, sz rfl, fun q2 hq2 => ?_⟩⟩⟩
    have k1 := same_new hq1 (.tup [.int pi.1, .int pi.2.1])
    have k2' := same_new hq2 (.tup [.bl true, i1])
    refine ⟨kvs, [.inl (pi.1 : Int), .inl (pi.2.1 : Int)], q1, rfl, k2' _ _ upd_same, k2' _ _ (k1 _ _ (k0 _ _ hk)), ?_, same_at (((sm.trans' k0).trans' k1).trans' k2') hD2, _, upd_same, ?_, fun _ => putK_ne _ _ _⟩
    · exact Nat.lt_of_lt_of_le (show kvs.length < 100000 by omega) (by decide)
    · exact Nat.le_trans (length_putK _ _ _) (Nat.succ_le_succ lk)
  rintro H15 ⟨s15, kvs2, hk2, lk2, nk2⟩
  refine ⟨_, rfl, y, CY, dx, _, rfl, s15 _ _ hy14, Y.cl, Y.nO, Nat.lt_of_lt_of_le (Nat.lt_succ_self 5) (by decide : 6 ≤ 1000), ?_⟩
  rw [putF_new ["own_stations", "own_pipes", "own_exits", "own_begin", "own_into"] rfl (by decide +kernel)]
  obtain ⟨H16, hH16⟩ : ∃ H16, H16 = upd H15 y (.ins CY dx ([(("own_stations" : Str), V.ref p1), (("own_pipes" : Str), V.ref p3), (("own_exits" : Str), V.ref c), (("own_begin" : Str), V.ref d), (("own_into" : Str), V.ref D)] ++ [(("own_onto" : Str), V.ref D2)])) := ⟨_, rfl⟩
  have b1516 : But y H15 H16 := by rw [hH16]; exact But.at
  have b1416 : But y H14 H16 := (But.of s15).trans b1516
  have hy16 : H16 y = some (.ins CY dx (yflds p1 p3 c d D D2)) := by rw [hH16, upd_same]; rfl
  have ny2 : D2 ≠ y := fun z => by rw [z, hy14] at hD2; cases hD2
  have hk16 : H16 D2 = some (.dT kvs2) := b1516 _ _ ny2 hk2
  rw [← hH16]
  clear hH16
  have t1416 := b1416.tups hy14
  have hc16 := t1416 _ _ (t1214 _ _ hc12)
  have pe16 := pr_all t1416 (pr_all t1214 pe12)
  -- own_onto.update(..)
  refine ⟨_, rfl, y, CY, dx, _, _, rfl, hy16, Y.cl, Y.nO, rfl, .inr (.inr (.inl ⟨rfl, .inr ⟨_, hk16⟩⟩)), _, rfl, y, CY, dx, _, _, rfl, hy16, Y.cl, Y.nX, rfl, _, _, rfl, SqT.of hc16, fun D3 hD3 => dcT_it walk_enumT (fun i H' => Same H16 H' ∧ ∃ kvs, H' D3 = some (.dT kvs) ∧ kvs.length ≤ i) ⟨same_new hD3 _, [], upd_same, Nat.le_refl 0⟩ (fun i H' _ z => SqT.of (z.1 _ _ hc16)) ?_ ?_⟩
  · rintro i x G1 G2 hi ⟨sm, kvs, hk, lk⟩ ⟨T0, i1, i2, rfl, hT0, rfl, hi1, hi2⟩
    obtain ⟨l, hl, tp, rfl, htp⟩ := paired_get pe16 hi2
    have k0 := same_new hT0 (.tup [i1, .ref tp])
    have hil := lt_len hl
    refine ⟨_, _, rfl, SqT.of upd_same, rfl, _, _, rfl, _, _, rfl, rfl, rfl, tyI ⟨_, rfl, _, rfl, sz rfl, fun q2 hq2 => ?_⟩⟩
    have k2' := same_new hq2 (.tup [.bl false, i1])
    refine ⟨kvs, [.inl (l.1 : Int), .inl (l.2 : Int)], tp, rfl, k2' _ _ (k0 _ _ (sm _ _ htp)), k2' _ _ (k0 _ _ hk), ?_, same_at ((sm.trans' k0).trans' k2') hD3, _, upd_same, ?_⟩
    · exact Nat.lt_of_lt_of_le (show kvs.length < 100000 by omega) (by decide)
    · exact Nat.le_trans (length_putK _ _ _) (Nat.succ_le_succ lk)
  rintro H17 ⟨s17, kvs3, hk3, lk3⟩
  have n23 : D2 ≠ D3 := fun z => by rw [← z, hk16] at hD3; cases hD3
  refine ⟨D2, D3, kvs2, kvs3, rfl, rfl, n23, s17 _ _ hk16, hk3, ?_, by omega, ?_⟩
  · rcases ok.ap with h | h
    · refine .inl (nk2 ?_)
      rw [lz, lsrt]
      exact fun z => h (List.eq_nil_of_length_eq_zero z)
    · exact .inr (by omega)
  have b18 : ∀ o, But D2 H17 (upd H17 D2 o) := fun o => But.at
  have t1618 : ∀ o b xs, H16 b = some (.tup xs) → upd H17 D2 o b = some (.tup xs) := fun o b xs e => by
    rw [upd_ne (fun z => by rw [z, hk16] at e; cases e)]
    exact s17 _ _ e
  have b1618 : ∀ o, But y H14 (upd H17 D2 o) := fun o b u n e => by
    rw [upd_ne (ne_of_none e hD2)]
    exact s17 _ _ (b1416 b u n e)
  have bfin : ∀ o, But y H (upd H17 D2 o) := fun o => (b12.trans b1214).trans (b1618 o)
  have t1218 : ∀ o, Tups H12 (upd H17 D2 o) := fun o b xs e => t1618 o _ _ (t1416 _ _ (t1214 _ _ e))
  obtain ⟨g1, g2, hg, hg1, hg2⟩ := bg
  refine q _ (bfin _) ⟨⟨dx, p1, p3, c, d, D, D2, ?_, ⟨us, t1218 _ _ _ (t612 _ _ hp16), stn_but (bfin _) hy pr⟩, ⟨zs, t1218 _ _ _ hp312, pipe_all (t1218 _) pz12⟩, ⟨es, t1218 _ _ _ hc12, pr_all (t1218 _) pe12⟩, g1, g2, t1218 _ _ _ hg, t1218 _ _ _ hg1, t1218 _ _ _ hg2⟩⟩
  rw [upd_ne (Ne.symm ny2)]
  exact s17 _ _ hy16
end
end FY


set_option Elab.async false
set_option linter.all false
set_option maxRecDepth 100000
set_option maxHeartbeats 4000000
/-! len by an own __len__; properties, own == and own len of a class in short -/
namespace FYR
open PySem PySem.Spec PyProof.Rows L2
section
variable {X : Cx} {n : Nat} {C f : Addr} {fd : FuncData} {ps : List Str} {sp : Sp}
def rLenO (C : Addr) (sp : Sp) : List V → Hp → VK → Prop := fun xs H Q => ∃ (a dx : Addr) (fs : List (Str × V)), xs = [.ref a] ∧ H a = some (.ins C dx fs) ∧ sp [.ref a] H (fun v H' => ∃ k : Nat, v = .int (k : Nat) ∧ k ≤ 1000000 ∧ Q (.int (k : Nat)) H') C8.E0
theorem call_lenO (Fn : FnOk X.prog X.w X.K X.mg X.base C8.CX0 n f fd ps sp) (hs : PySem.W.findIn X.K (.ref C) "__len__" = some (some (.ref f))) (hf : PySem.W.isFn X.K (.ref f) = true) (hb : Binds X.K fd ps []) (hr : Room (n + 1) X.A) : CallR X (.builtin "len") (rLenO C sp) := by
  intro pins s σ H xs us Q I r h
  obtain ⟨a, dx, fs, rfl, ha, q⟩ := h
  obtain ⟨u, rfl, ru⟩ := r.one
  cases ru
  obtain ⟨mA, J, _⟩ := ins_get I.hok ha
  obtain ⟨od, J, _⟩ := J.look
  have spc : PySem.W.Looks (model X.prog X.w) s.heap (specialOf (.ref a) "__len__") (some (.ref f)) := J.type.andThen (PySem.W.looks_findIn I.kIn hs)
  have len := Fn.len _ _ _ _ q
  have e1 : Env0 X.prog X.w X.K X.mg X.base X.A.in1 X.stack s H := I.env0.in1
  have run : wpAny (model X.prog X.w) X.A.in1 (call (.ref f) [.ref a]) (fun v s' => ∃ k : Nat, ∃ t, v = .int (k : Nat) t ∧ k ≤ 1000000 ∧ ∃ H', Inv X pins σ H' s' ∧ Q (.int (k : Nat)) H') (fun _ _ => False) s := by
    refine wpAny_call (codeAny_mono (Fn.run X.A.in1 X.stack s H ⟨[.ref a], []⟩ [.ref a] [.ref a] _ C8.E0 hr.in1 e1 (by
      have z := hb s [.ref a] I.kIn (by simpa using len)
      simpa using z) (.cons rfl .nil) q) fun r s' hq => ?_)
    cases r with
    | error e => exact False.elim hq
    | ok fl =>
      cases fl with
      | ret w =>
        obtain ⟨z, H', I', rz, k, ez, kl, qk⟩ := I.after hq
        subst ez
        obtain ⟨t, rfl⟩ := rz
        exact ⟨k, t, rfl, kl, H', I', qk⟩
      | next => exact False.elim hq
      | brk => exact False.elim hq
      | cont => exact False.elim hq
  refine Calls.call_function_entry kind_len plain_len entry_len (args_len1 _) ?_
  unfold Builtin.«len»
  refine wpAny_bind (m := oneArg "len" _) (wpAny_pure ?_)
  refine wpAny_bind (m := callSpecial? (.ref a) (PySem.Str.ofString "__len__")) ?_
  simp only [callSpecial?]
  refine wpAny_bind (spc.here ?_)
  refine wpAny_holding (wpAny_bind ((PySem.W.bind_fn I.kIn _ (beq_iff_eq.mp hf)).here ?_))
  refine wpAny_bind (wpAny_mono run (fun v s' z => ?_) fun _ _ z => z.elim)
  obtain ⟨k, t, rfl, kl, H', I', qk⟩ := z
  refine wpAny_pure ?_
  refine wpAny_bind (wpAny_holding (wpAny_pure ?_))
  refine wpAny_bind (wpAny_letGo ?_)
  show wpAny _ _ (if ((k : Nat) : Int) < 0 then _ else _) _ _ _
  rw [if_neg (by omega)]
  show wpAny _ _ (if ((k : Nat) : Int) ≥ 2 ^ 63 then _ else _) _ _ _
  rw [if_neg (by omega)]
  exact wpAny_bind (wpAny_mkInt (wpAny_pure ⟨_, rfl, .int (k : Nat), H', I'.tok _, ⟨_, rfl⟩, qk⟩))
end
/-- the class at C has an own __len__ -/
structure LenC (P : Program) (w : World) (K : PySem.W.Frag) (mg : Str → Option Value) (base : Heap) (k : Nat) (C : Addr) (sp : Sp) : Prop where
  ex : ∃ (f : Addr) (fd : FuncData) (ps : List Str), FnOk P w K mg base C8.CX0 k f fd ps sp ∧ PySem.W.findIn K (.ref C) "__len__" = some (some (.ref f)) ∧ PySem.W.isFn K (.ref f) = true ∧ Binds K fd ps []
/-- the class at C has an own == -/
structure EqC (P : Program) (w : World) (K : PySem.W.Frag) (mg : Str → Option Value) (base : Heap) (k : Nat) (C : Addr) (R : Addr → Addr → Hp → Prop) : Prop where
  ex : ∃ (f : Addr) (fd : FuncData) (ps : List Str), FnOk P w K mg base C8.CX0 k f fd ps (spEq R) ∧ PySem.W.findIn K (.ref C) "__eq__" = some (some (.ref f)) ∧ PySem.W.isFn K (.ref f) = true ∧ Binds K fd ps []
  ne : PySem.W.findIn K (.ref C) "__ne__" = some (some (.builtin "object.__ne__"))
  hm : PySem.W.mroIn K C (.type "object") = some true
/-- .. a property -/
structure Prp (P : Program) (w : World) (K : PySem.W.Frag) (mg : Str → Option Value) (base : Heap) (k : Nat) (C : Addr) (x : Str) (sp : Sp) : Prop where
  ex : ∃ (p g : Addr) (fd : FuncData) (ps : List Str), Cls K C ∧ PropOf K C x p g ∧ FnOk P w K mg base C8.CX0 k g fd ps sp ∧ Binds K fd ps []
section
variable {X : Cx} {k j : Nat} {C : Addr} {sp : Sp} {R : Addr → Addr → Hp → Prop}
theorem kLenO (c : LenC X.prog X.w X.K X.mg X.base k C sp) (hr : Room j X.A) (hk : k + 1 ≤ j) : CallR X (.builtin "len") (rLenO C sp) := by
  obtain ⟨f, fd, ps, F, hs, hf, hb⟩ := c.ex
  exact call_lenO F hs hf hb (hr.mono hk)
theorem kEqO (c : EqC X.prog X.w X.K X.mg X.base k C R) (hr : Room j X.A) (hk : k ≤ j) : OpR X (compareOp .Eq) (rEqG (DIns C R)) := by
  obtain ⟨f, fd, ps, F, hs, hf, hb⟩ := c.ex
  exact op_eqG (rcG_ins F hs hf hb (C8.pass0 (E := C8.E0))) (hr.mono hk)
theorem kNeO (c : EqC X.prog X.w X.K X.mg X.base k C R) (hr : Room j X.A) (hk : k + 1 ≤ j) : OpR X (compareOp .NotEq) (rNeG (DIns C R)) := by
  obtain ⟨f, fd, ps, F, hs, hf, hb⟩ := c.ex
  exact op_neIns F hs c.ne c.hm hf hb (C8.pass0 (E := C8.E0)) (hr.mono hk)
theorem kNeTupO (K : PySem.W.Frag) (hK : X.K = K) (c : EqC X.prog X.w X.K X.mg X.base k C R) (mon : ∀ a b H H', Ext H H' → R a b H → R a b H') (hr : Room j X.A) (hk : k + 1 ≤ j) : OpR X (compareOp .NotEq) (rNeG (DTup K (DIns C R))) := by
  subst hK
  obtain ⟨f, fd, ps, F, hs, hf, hb⟩ := c.ex
  exact op_neTupG (mon_ins mon) (eqG_ins F hs hf hb (C8.pass0 (E := C8.E0))) (hr.mono hk)
theorem kPrp {x : Str} {e : Expr} {ta : TE} {pos : Pos} (c : Prp X.prog X.w X.K X.mg X.base k C x sp) (hr : Room j X.A) (hk : k + 1 ≤ j) (he : PE X e ta) (hab : attributeBase e x X.env (eval e X.env) = eval e X.env := by rfl) : PE X (.Attribute e x pos) (tProp C sp [] C8.E0 ta) := by
  obtain ⟨p, g, fd, ps, cl, hp, F, hb⟩ := c.ex
  exact pe_prop he cl hp F (hr.mono hk) hb .nil C8.pass0 hab
end
end FYR

set_option Elab.async false
set_option linter.all false
set_option maxRecDepth 100000
set_option maxHeartbeats 4000000
namespace FY
open PySem L2 FYR
theorem BgA.keep {H H' : Hp} (k : Tups H H') {d : Addr} {n m : Nat} (h : BgA H d n m) : BgA H' d n m := by
  obtain ⟨d1, d2, h1, h2, h3⟩ := h
  exact ⟨d1, d2, k _ _ h1, k _ _ h2, k _ _ h3⟩
theorem YdA.nl {CY C : Addr} {H H' : Hp} (k : NL H H') {y : Addr} {ts : List Stn} {ps : List Pipe} (h : YdA CY C H y ts ps) : YdA CY C H' y ts ps := by
  obtain ⟨dx, a, b, c, d, e, f, hy, ⟨us, ha, pus⟩, ⟨ws, hb, pws⟩, ⟨es, hc, pes⟩, bg⟩ := h
  exact ⟨dx, a, b, c, d, e, f, k _ _ (fun xs z => nomatch z) hy, ⟨us, k.tups _ _ ha, stn_all k pus⟩, ⟨ws, k.tups _ _ hb, pipe_all k.tups pws⟩, ⟨es, k.tups _ _ hc, pr_all k.tups pes⟩, bg.keep k.tups⟩
def spYS (CY C : Addr) : Sp := fun vs H Q _ => ∃ (y : Addr) (ts : List Stn) (ps : List Pipe), vs = [.ref y] ∧ YdA CY C H y ts ps ∧ ∀ p us, H p = none → Paired (StnA C H) us ts → Q (.ref p) (upd H p (.lst us))
def spYP (CY C : Addr) : Sp := fun vs H Q _ => ∃ (y : Addr) (ts : List Stn) (ps : List Pipe), vs = [.ref y] ∧ YdA CY C H y ts ps ∧ ∀ p ws, H p = none → Paired (PipeA H) ws (srt ps) → Q (.ref p) (upd H p (.lst ws))
def spYE (CY C : Addr) : Sp := fun vs H Q _ => ∃ (y : Addr) (ts : List Stn) (ps : List Pipe), vs = [.ref y] ∧ YdA CY C H y ts ps ∧ ∀ p es, H p = none → Paired (PrA H) es (exitsOf ts ps) → Q (.ref p) (upd H p (.lst es))
def spYB (CY C : Addr) : Sp := fun vs H Q _ => ∃ (y : Addr) (ts : List Stn) (ps : List Pipe), vs = [.ref y] ∧ YdA CY C H y ts ps ∧ ∀ d, BgA H d ts.length ps.length → Q (.ref d) H
def spYL (CY C : Addr) : Sp := fun vs H Q _ => ∃ (y : Addr) (ts : List Stn) (ps : List Pipe), vs = [.ref y] ∧ YdA CY C H y ts ps ∧ Q (.int (ts.length : Nat)) H
def YdEq (CY C : Addr) (a b : Addr) (H : Hp) : Prop := ∃ ts ps, YdA CY C H a ts ps ∧ YdA CY C H b ts ps ∧ YdOk ts ps
theorem YdEq.mon {CY C a b : Addr} {H H' : Hp} (e : Ext H H') (h : YdEq CY C a b H) : YdEq CY C a b H' := by
  obtain ⟨ts, ps, h1, h2, h3⟩ := h
  exact ⟨ts, ps, h1.nl (fun b o _ q => e b o q), h2.nl (fun b o _ q => e b o q), h3⟩
theorem prs_st {C : Addr} {H : Hp} : ∀ {us vs : List V} {ts : List Stn}, Paired (StnA C H) us ts → Paired (StnA C H) vs ts → (∀ t ∈ ts, t.ok) → Prs (DIns C (StEq C)) us vs H
  | _, _, _, .nil, .nil, _ => Prs.nil
  | _, _, _, .cons r q, .cons r2 q2, h => by
    refine Prs.cons ?_ (prs_st q q2 fun t ht => h t (List.mem_cons_of_mem _ ht))
    obtain ⟨a, dx, p, ps, e, h1, h2, pr⟩ := id r
    obtain ⟨b, dy, p', ps', e', h1', h2', pr'⟩ := id r2
    subst e
    subst e'
    exact ⟨a, b, dx, dy, _, _, rfl, rfl, h1, h1', _, r, r2, h _ (List.mem_cons_self ..)⟩
theorem pps_nice {ps : List Pipe} (h : ∀ p ∈ ps, SmP p) (hm : ps.length ≤ 100) : Nice 2 3300 (.tuple (ps.map ppD)) := by
  refine nice_tup (n := 1) (w := 32) (m := 100) (fun d hd => ?_) (by rw [List.length_map]; exact hm)
  obtain ⟨p, hp, rfl⟩ := List.mem_map.mp hd
  exact pp_nice (h p hp)
def bgD (n m : Nat) : PyData := .tuple [.tuple (List.replicate n (.int 0)), .tuple (List.replicate m (.str ""))]
theorem dpall_rep {K : PySem.W.Frag} {H : Hp} {v : V} {d : PyData} (h : Dp K H v d) : ∀ n, DpAll K H (List.replicate n v) (List.replicate n d)
  | 0 => .nil
  | n + 1 => .cons h (dpall_rep h n)
theorem BgA.dp {K : PySem.W.Frag} {H : Hp} {d : Addr} {n m : Nat} (h : BgA H d n m) : Dp K H (.ref d) (bgD n m) := by
  obtain ⟨d1, d2, h1, h2, h3⟩ := h
  exact .tup (SqT.of h1) (.cons (.tup (SqT.of h2) (dpall_rep (.int 0) n)) (.cons (.tup (SqT.of h3) (dpall_rep (.str _) m)) .nil))
theorem bg_nice {n m : Nat} (hn : n ≤ 100) (hm : m ≤ 100) : Nice 2 2000 (bgD n m) := by
  refine Nice.mono (n := 2) (w := 1602) (nice_tup (n := 1) (w := 800) (m := 2) (fun d hd => ?_) (Nat.le_refl 2)) (Nat.le_refl 2) (by decide)
  simp only [List.mem_cons, List.not_mem_nil, or_false] at hd
  rcases hd with rfl | rfl
  · refine nice_tup (n := 0) (w := 7) (m := 100) (fun d hd => ?_) (by rw [List.length_replicate]; exact hn)
    rw [(List.mem_replicate.mp hd).2]
    exact nice_int (k := 0) (by decide)
  · refine (nice_tup (n := 0) (w := 0) (m := 100) (fun d hd => ?_) (by rw [List.length_replicate]; exact hm)).mono (Nat.le_refl 1) (by decide)
    rw [(List.mem_replicate.mp hd).2, se]
    exact nice_str (by simp)
section
variable {P : Program} {w : World} {K : PySem.W.Frag} {mg : Str → Option Value} {base : Heap} {aS a1 a2 aL aT : Addr} {f : Addr} {fd : FuncData} {C CD CY : Addr} {mc : Value}
abbrev s_Yard_stations : Stmt := inClass (top 40) 3
abbrev N_Yard_stations : List Str := ["self"]
theorem sc_Yard_stations : FnScope N_Yard_stations ["self"] (defScope s_Yard_stations) := ⟨rfl, rfl, rfl, by decide +kernel, rfl, by decide +kernel, by decide +kernel⟩
theorem ok_Yard_stations (F : Fun K "stations" "Yard.stations" s_Yard_stations f fd) (T : Txt K mg aS a1 a2) (Y : YdF K CY) : FnOk P w K mg base CX0 1 f fd ["self"] (spYS CY C) := by
  refine F.ok sc_Yard_stations (fun vs H Q E h => ?_) (fun cdv A outer s H vs Q E hr h => ?_)
  · obtain ⟨y, ts, ps, rfl, _⟩ := h
    rfl
  obtain ⟨y, ts, ps, rfl, ⟨dx, a, b, c, d, e, f, hy, ⟨us, ha, pus⟩, ⟨ws, hb, pws⟩, ⟨es, hc, pes⟩, bg⟩, q⟩ := h
  refine ⟨_, (pss_one (ps_ret (pe_callTy (kListOf K rfl) rfl T.b_list bt_list (pa_cons (kFld K rfl (pv 0)) pa_nil)))), ?_⟩
  exact ⟨_, rfl, y, CY, dx, _, _, rfl, hy, Y.cl, Y.nS, rfl, _, _, rfl, .inr (SqT.of ha), fun p hp => q p us hp pus⟩
abbrev s_Yard_pipes : Stmt := inClass (top 40) 4
abbrev N_Yard_pipes : List Str := ["self"]
theorem sc_Yard_pipes : FnScope N_Yard_pipes ["self"] (defScope s_Yard_pipes) := ⟨rfl, rfl, rfl, by decide +kernel, rfl, by decide +kernel, by decide +kernel⟩
theorem ok_Yard_pipes (F : Fun K "pipes" "Yard.pipes" s_Yard_pipes f fd) (T : Txt K mg aS a1 a2) (Y : YdF K CY) : FnOk P w K mg base CX0 1 f fd ["self"] (spYP CY C) := by
  refine F.ok sc_Yard_pipes (fun vs H Q E h => ?_) (fun cdv A outer s H vs Q E hr h => ?_)
  · obtain ⟨y, ts, ps, rfl, _⟩ := h
    rfl
  obtain ⟨y, ts, ps, rfl, ⟨dx, a, b, c, d, e, f, hy, ⟨us, ha, pus⟩, ⟨ws, hb, pws⟩, ⟨es, hc, pes⟩, bg⟩, q⟩ := h
  refine ⟨_, (pss_one (ps_ret (pe_callTy (kListOf K rfl) rfl T.b_list bt_list (pa_cons (kFld K rfl (pv 0)) pa_nil)))), ?_⟩
  exact ⟨_, rfl, y, CY, dx, _, _, rfl, hy, Y.cl, Y.nP, rfl, _, _, rfl, .inr (SqT.of hb), fun p hp => q p ws hp pws⟩
abbrev s_Yard_exits : Stmt := inClass (top 40) 6
abbrev N_Yard_exits : List Str := ["self"]
theorem sc_Yard_exits : FnScope N_Yard_exits ["self"] (defScope s_Yard_exits) := ⟨rfl, rfl, rfl, by decide +kernel, rfl, by decide +kernel, by decide +kernel⟩
theorem ok_Yard_exits (F : Fun K "exits" "Yard.exits" s_Yard_exits f fd) (T : Txt K mg aS a1 a2) (Y : YdF K CY) : FnOk P w K mg base CX0 1 f fd ["self"] (spYE CY C) := by
  refine F.ok sc_Yard_exits (fun vs H Q E h => ?_) (fun cdv A outer s H vs Q E hr h => ?_)
  · obtain ⟨y, ts, ps, rfl, _⟩ := h
    rfl
  obtain ⟨y, ts, ps, rfl, ⟨dx, a, b, c, d, e, f, hy, ⟨us, ha, pus⟩, ⟨ws, hb, pws⟩, ⟨es, hc, pes⟩, bg⟩, q⟩ := h
  refine ⟨_, (pss_one (ps_ret (pe_callTy (kListOf K rfl) rfl T.b_list bt_list (pa_cons (kFld K rfl (pv 0)) pa_nil)))), ?_⟩
  exact ⟨_, rfl, y, CY, dx, _, _, rfl, hy, Y.cl, Y.nX, rfl, _, _, rfl, .inr (SqT.of hc), fun p hp => q p es hp pes⟩
abbrev s_Yard_begin : Stmt := inClass (top 40) 5
abbrev N_Yard_begin : List Str := ["self"]
theorem sc_Yard_begin : FnScope N_Yard_begin ["self"] (defScope s_Yard_begin) := ⟨rfl, rfl, rfl, by decide +kernel, rfl, by decide +kernel, by decide +kernel⟩
theorem ok_Yard_begin (F : Fun K "begin" "Yard.begin" s_Yard_begin f fd) (T : Txt K mg aS a1 a2) (Y : YdF K CY) : FnOk P w K mg base CX0 1 f fd ["self"] (spYB CY C) := by
  refine F.ok sc_Yard_begin (fun vs H Q E h => ?_) (fun cdv A outer s H vs Q E hr h => ?_)
  · obtain ⟨y, ts, ps, rfl, _⟩ := h
    rfl
  obtain ⟨y, ts, ps, rfl, ⟨dx, a, b, c, d, e, f, hy, ⟨us, ha, pus⟩, ⟨ws, hb, pws⟩, ⟨es, hc, pes⟩, bg⟩, q⟩ := h
  refine ⟨_, (pss_one (ps_ret (kFld K rfl (pv 0)))), ?_⟩
  exact ⟨_, rfl, y, CY, dx, _, _, rfl, hy, Y.cl, Y.nB, rfl, q d bg⟩
abbrev s_Yard___len__ : Stmt := inClass (top 40) 8
abbrev N_Yard___len__ : List Str := ["self"]
theorem sc_Yard___len__ : FnScope N_Yard___len__ ["self"] (defScope s_Yard___len__) := ⟨rfl, rfl, rfl, by decide +kernel, rfl, by decide +kernel, by decide +kernel⟩
theorem ok_Yard_len (F : Fun K "__len__" "Yard.__len__" s_Yard___len__ f fd) (T : Txt K mg aS a1 a2) (Y : YdF K CY) : FnOk P w K mg base CX0 1 f fd ["self"] (spYL CY C) := by
  refine F.ok sc_Yard___len__ (fun vs H Q E h => ?_) (fun cdv A outer s H vs Q E hr h => ?_)
  · obtain ⟨y, ts, ps, rfl, _⟩ := h
    rfl
  obtain ⟨y, ts, ps, rfl, ⟨dx, a, b, c, d, e, f, hy, ⟨us, ha, pus⟩, ⟨ws, hb, pws⟩, ⟨es, hc, pes⟩, bg⟩, q⟩ := h
  refine ⟨_, (pss_one (ps_ret (pe_callB (kLen K rfl) rfl T.b_len bt_len (pa_cons (kFld K rfl (pv 0)) pa_nil)))), ?_⟩
  refine ⟨_, rfl, y, CY, dx, _, _, rfl, hy, Y.cl, Y.nS, rfl, _, _, rfl, .inr (SqT.of ha), ?_⟩
  rw [paired_len pus]
  exact q
abbrev s_Yard___eq__ : Stmt := inClass (top 40) 9
abbrev N_Yard___eq__ : List Str := ["self", "other"]
theorem sc_Yard___eq__ : FnScope N_Yard___eq__ ["self", "other"] (defScope s_Yard___eq__) := ⟨rfl, rfl, rfl, by decide +kernel, rfl, by decide +kernel, by decide +kernel⟩
theorem ok_Yard_eq {mcv : Value} (F : Fun K "__eq__" "Yard.__eq__" s_Yard___eq__ f fd) (T : Txt K mg aS a1 a2) (Y0 : YdC K mg CY mcv) (Y : YdF K CY) (I : IsaC K CY) (eS : EqC P w K mg base 1 C (StEq C)) : FnOk P w K mg base CX0 3 f fd ["self", "other"] (spEq (YdEq CY C)) := by
  refine F.ok sc_Yard___eq__ (fun vs H Q E h => ?_) (fun cdv A outer s H vs Q E hr h => ?_)
  · obtain ⟨a, b, rfl, _⟩ := h
    rfl
  obtain ⟨x, y, rfl, ⟨ts, ps, ⟨dx, a, b, c, d, e, f, hy, ⟨us, ha, pus⟩, ⟨ws, hb, pws⟩, _, bg⟩, ⟨dx', a', b', c', d', e', f', hy', ⟨us', ha', pus'⟩, ⟨ws', hb', pws'⟩, _, bg'⟩, ok⟩, q⟩ := h
  refine ⟨_, (pss_cons (ps_if (PW.pt (pw_or (pt_not (pt_val (pe_callB (kIsi K rfl) rfl T.b_isinstance bt_isinstance (pa_cons (pv 1) (pa_cons (C8.pe_gc rfl Y0.g_Yard) pa_nil))))) (pw_or1 (pt_cmpR (kNeTupO K rfl eS (fun _ _ _ _ => StEq.mon) hr (by decide)) (kFld K rfl (pv 0)) (kFld K rfl (pv 1)) (nomark _)))))
        (pss_one (ps_ret pe_bl))
        pss_nil)
        (pss_one (ps_ret (pe_and (pe_cmpR (kEqD K rfl hr.units) (kFld K rfl (pv 0)) (kFld K rfl (pv 1)) (nomark _)) (pe_one (pe_cmpR (kEqD K rfl hr.units) (kFld K rfl (pv 0)) (kFld K rfl (pv 1)) (nomark _))))))), ?_⟩
  refine ⟨_, rfl, _, _, _, _, _, rfl, .own CY, I.ty hy', kit_self, _, rfl, iteF ?_⟩
  refine ⟨_, rfl, x, CY, dx, _, _, rfl, hy, Y.cl, Y.nS, rfl, _, rfl, y, CY, dx', _, _, rfl, hy', Y.cl, Y.nS, rfl, ⟨a, a', us, us', rfl, rfl, SqT.of ha, SqT.of ha', prs_st pus pus' ok.ok⟩, fun H1 x1 => ⟨_, rfl, iteF ?_⟩⟩
  have t1 : Tups H H1 := fun b xs e => x1 _ _ e
  have pws1 := pipe_all t1 pws
  have pws1' := pipe_all t1 pws'
  have m2 := ok.m2
  have mp := ok.mp
  have lsrt : (srt ps).length = ps.length := (srt_perm ps).length_eq
  have n1 := pps_nice (ps := srt ps) (fun p hp => ppok_le (ok.pp p ((srt_perm ps).mem_iff.mp hp)) (by omega)) (by omega)
  have n2 := bg_nice (n := ts.length) (m := ps.length) (by omega) (by omega)
  refine ⟨_, rfl, x, CY, dx, _, _, rfl, x1 _ _ hy, Y.cl, Y.nP, rfl, _, rfl, y, CY, dx', _, _, rfl, x1 _ _ hy', Y.cl, Y.nP, rfl, _, _, .tup (SqT.of (t1 _ _ hb)) (dpall (fun _ _ r => r.dp) pws1), .tup (SqT.of (t1 _ _ hb')) (dpall (fun _ _ r => r.dp) pws1'), n1.shp (by decide), n1.shp (by decide), _, rfl, ?_⟩
  rw [eqv_dec n1.lay]
  refine iteT ⟨_, rfl, x, CY, dx, _, _, rfl, x1 _ _ hy, Y.cl, Y.nB, rfl, _, rfl, y, CY, dx', _, _, rfl, x1 _ _ hy', Y.cl, Y.nB, rfl, _, _, (bg.keep t1).dp, (bg'.keep t1).dp, n2.shp (by decide), n2.shp (by decide), ?_⟩
  rw [eqv_dec n2.lay]
  exact q _ x1
end
end FY


set_option Elab.async false
set_option linter.all false
set_option maxRecDepth 100000
set_option maxHeartbeats 4000000
/-! list == [] -/
namespace FYR
open PySem PySem.Spec PyProof.Rows L2
open AutoSeq1 (wpAny_loadPart')
theorem list_eqLen {prog : Program} {w : World} {A : Around} {R : Result → Shared → Prop} (l b : Addr) (xs ys : Array Value) (n m : Nat) (ne : xs.size ≠ ys.size) {s : Shared} (hl : s.heap.get? l = some { cls := .type "list", data := .seq xs n }) (hb : s.heap.get? b = some { cls := .type "list", data := .seq ys m })
    (h : R (.ok (.ret (.bool false))) s) : wpAny (model prog w) A.in1 (Builtin.«list.__eq__» ⟨[.ref l, .ref b], []⟩) (GQ.FinOf prog w A R) (fun e s' => R (.error e) s') s := by
  obtain ⟨hp, g, d, tk, os⟩ := s
  have f3 := AutoSeq1.sub_list_list
  have c1 : (xs.size != ys.size) = true := by simp [ne]
  wp_walk using wpAny_loadPart' hl, wpAny_loadPart' hb
  exact h
def rEqN : R2 := fun x y H Q => ∃ (a b : Addr) (xs : List V), x = .ref a ∧ y = .ref b ∧ H a = some (.lst xs) ∧ H b = some (.lst []) ∧ Q (.bl xs.isEmpty) H
theorem op_eqN {X : Cx} (hu : X.A.units + 64 < cLine) : OpR X (compareOp .Eq) rEqN := by
  intro pins s σ H x y v u Q I rx ry h
  obtain ⟨a, b, xs, rfl, rfl, ha, hb, q⟩ := h
  cases xs with
  | nil => exact op_eqD hu pins s σ H _ _ v u Q I rx ry ⟨.list [], .list [], .lst (SqL.of ha) .nil, .lst (SqL.of hb) .nil, by decide +kernel, by decide +kernel, q⟩
  | cons z zs =>
    cases rx
    cases ry
    obtain ⟨_, its, k, r, e⟩ := I.hok a _ ha
    obtain ⟨_, its2, k2, r2, e2⟩ := I.hok b _ hb
    have l1 := r.length
    have l2 := r2.length
    show wpAny (model X.prog X.w) X.A (richCompare .Eq (.ref a) (.ref b)) (EP X pins σ Q) X.xe s
    refine wpAny_richCompare_same_room (op := .Eq) ⟨_, e, rfl⟩ ⟨_, e2, rfl⟩ F.slot_list_eq (GQ.call_here F.slot_list_eq ⟨_, e, rfl⟩ F.entry_list_eq (F.args_list_eq_2 _ _) ?_) (by omega)
    refine list_eqLen (R := wants (fun v s' => v ≠ .notImplemented ∧ EP X pins σ Q v s') X.xe) a b its.toArray its2.toArray k k2 ?_ e e2 ⟨(fun z => nomatch z), .bl false, H, I, rfl, q⟩
    rw [List.size_toArray, List.size_toArray, ← l1, ← l2]
    simp
end FYR

set_option Elab.async false
set_option linter.all false
set_option maxRecDepth 100000
set_option maxHeartbeats 4000000
namespace FY
open PySem L2 FYR
theorem pe_mk0 {X : Cx} {k j : Nat} {C : Addr} {x : Str} {sp : Sp} {dvs : List V} {p pos : Pos} (c : C8.Mak X.prog X.w X.K X.mg X.base k x C sp dvs) (hr : Room j X.A) (hk : k + 1 ≤ j) (hg : Gl X x) (hdb : (x == ("__debug__" : Str)) = false := by decide) : PE X (.Call (.Name x p) [] [] pos) (tMake C sp dvs C8.E0 tNil) := by
  obtain ⟨f, fd, ps, ds, M, F, hm, b, d⟩ := c.ex
  exact pe_make0 M F (hr.mono hk) hg hm b d C8.pass0 hdb
def finS (st : Stt) : Stt := if st.1 = [] then ([passSt], []) else st
theorem pass_way : wayOk [[r1 [false] 0, r1 [true] 0]] := by
  refine ⟨by decide, by decide, fun rs hrs => ?_⟩
  rw [List.mem_singleton.mp hrs]
  refine ⟨rfl, fun r hr => ?_⟩
  simp only [List.mem_cons, List.not_mem_nil, or_false] at hr
  rcases hr with rfl | rfl <;> exact r1_ok (by simp) (by decide)
theorem pass_yd : YdOk [passSt] [] := by
  refine ⟨Nat.le_refl 1, (by decide : 1 ≤ 12), fun t ht => ?_, fun t ht => ?_, fun p hp => (nomatch hp), List.nodup_nil, List.nodup_nil, Nat.le_refl 1, (by decide : 0 < 64), (by decide : 1 ≤ 3), .inr (Nat.le_refl 1)⟩
  · have : passSt = t := by simpa using ht
    rw [← this]
    rfl
  · rw [List.mem_singleton.mp ht]
    exact way_ok pass_way
/-- what the plain state must be for a yard -/
def stOk (st : Stt) : Prop := st.1 = [] ∨ YdOk st.1 st.2
def spMade (CD CY C : Addr) : Sp := fun vs H Q _ => ∃ (d S Pp : Addr) (ts : List Stn) (ps : List Pipe), vs = [.ref d] ∧ DrA CD C H d S Pp ts ps ∧ stOk (ts, ps) ∧ ∀ H' y, Same H H' → YdA CY C H' y (finS (ts, ps)).1 (finS (ts, ps)).2 → Q (.ref y) H'
def spCompiled (CY C : Addr) : Sp := fun vs H Q _ => ∃ (v : V) (t : Tm), vs = [v] ∧ TA H v t ∧ t.nodes ≤ 9 ∧ stOk (wholeS t none ([], [])).2 ∧ ∀ H' y, Same H H' → YdA CY C H' y (finS (wholeS t none ([], [])).2).1 (finS (wholeS t none ([], [])).2).2 → Q (.ref y) H'
section
variable {P : Program} {w : World} {K : PySem.W.Frag} {mg : Str → Option Value} {base : Heap} {aS a1 a2 aL aT : Addr} {f : Addr} {fd : FuncData} {C CD CY : Addr} {mc : Value}
abbrev s_Draft_made : Stmt := inClass (top 64) 5
abbrev N_Draft_made : List Str := ["self"]
theorem sc_Draft_made : FnScope N_Draft_made ["self"] (defScope s_Draft_made) := ⟨rfl, rfl, rfl, by decide +kernel, rfl, by decide +kernel, by decide +kernel⟩
theorem ok_Draft_made (F : Fun K "made" "Draft.made" s_Draft_made f fd) (D : DrC K mg CD) (c_row : C8.Cal P w K mg base 1 "row" spRow []) (c_one_way : C8.Cal P w K mg base 8 "one_way" (spOneWay C) []) (mk_Yard : C8.Mak P w K mg base 6 "Yard" CY (spYdInit CY C) [.non]) : FnOk P w K mg base CX0 9 f fd ["self"] (spMade CD CY C) := by
  refine F.ok sc_Draft_made (fun vs H Q E h => ?_) (fun cdv A outer s H vs Q E hr h => ?_)
  · obtain ⟨d, S, Pp, ts, ps, rfl, _⟩ := h
    rfl
  obtain ⟨d, S, Pp, ts, ps, rfl, ⟨⟨dx, hd⟩, ⟨us, hS, pr⟩, ⟨ws, hP, pp⟩, ne⟩, ok, q⟩ := h
  have lt := paired_len pr
  refine ⟨_, (pss_cons (ps_if (pt_cmpR (op_eqN hr.units) (kFld K rfl (pv 0)) (pe_lst pa_nil) (nomark _))
        (pss_one (ps_ret (C8.pe_mk mk_Yard hr (by decide) rfl (pa_cons (pe_lst (pa_cons (C8.pe_c c_one_way hr (by decide) rfl (pa_cons (pe_lst (pa_cons (pe_lst (pa_cons (C8.pe_c c_row hr (by decide) rfl (pa_cons pe_str (pa_cons pe_int pa_nil))) (pa_cons (C8.pe_c c_row hr (by decide) rfl (pa_cons pe_str (pa_cons pe_int pa_nil))) pa_nil))) pa_nil)) pa_nil)) pa_nil)) (pa_cons (pe_lst pa_nil) pa_nil)))))
        pss_nil)
        (pss_one (ps_ret (C8.pe_mk mk_Yard hr (by decide) rfl (pa_cons (kFld K rfl (pv 0)) (pa_cons (kFld K rfl (pv 0)) pa_nil)))))), ?_⟩
  refine ⟨_, rfl, d, CD, dx, _, _, rfl, hd, D.cl, D.nS, lkS S Pp, Nat.zero_le _, fun p0 hp0 => ?_⟩
  have k0 := same_new hp0 (.lst [])
  refine ⟨S, p0, us, rfl, rfl, k0 _ _ hS, upd_same, _, rfl, ?_⟩
  cases ts with
  | nil =>
    cases pr
    refine iteT ?_
    refine ⟨[false], 0, rowLit z0, fun H1 v1 s1 a1 => ⟨[true], 0, rowLit z1, fun H2 v2 s2 a2 => ⟨sz rfl, fun l0 hl0 => ⟨sz rfl, fun R hR => ?_⟩⟩⟩⟩
    have k1 := same_new hl0 (.lst [v1, v2])
    have k2 := same_new hR (.lst [.ref l0])
    refine ⟨R, _, [[r1 [false] 0, r1 [true] 0]], rfl, upd_same, .cons ⟨l0, _, rfl, k2 _ _ upd_same, .cons (a1.keep (Tups.of ((s2.trans' k1).trans' k2))) (.cons (a2.keep (Tups.of (k1.trans' k2))) .nil)⟩ .nil, pass_way, fun H3 v3 s3 st3 => ?_⟩
    refine ⟨sz rfl, fun L hL => ⟨Nat.zero_le _, fun M hM => ?_⟩⟩
    have k4 := same_new hL (.lst [v3])
    have k5 := same_new hM (.lst [])
    intro x dx' hx hdx hne
    have mm := mk_same (C := CY) hx hdx
    refine ⟨x, dx', L, M, [v3], [], [passSt], [], rfl, upd_same, mm _ _ (k5 _ _ upd_same), .cons (st3.but2 (NL.of ((k4.trans' k5).trans' mm))) .nil, mm _ _ upd_same, .nil, pass_yd, fun H' b ya => ⟨rfl, ?_⟩⟩
    exact q _ _ ((((((k0.trans' s1).trans' s2).trans' k1).trans' k2).trans' ((s3.trans' k4).trans' k5)).trans' (mk_after hx mm b)) ya
  | cons t tr =>
    have e : us.isEmpty = false := by
      cases pr
      rfl
    rw [e]
    refine iteF ?_
    have ok' : YdOk (t :: tr) ps := by
      rcases ok with z | z
      · cases z
      · exact z
    refine ⟨_, rfl, d, CD, dx, _, _, rfl, k0 _ _ hd, D.cl, D.nS, lkS S Pp, _, rfl, d, CD, dx, _, _, rfl, k0 _ _ hd, D.cl, D.nP, lkP S Pp, ?_⟩
    intro x dx' hx hdx hne
    have mm := mk_same (C := CY) hx hdx
    have km := k0.trans' mm
    refine ⟨x, dx', S, Pp, us, ws, t :: tr, ps, rfl, upd_same, km _ _ hS, stn_all (NL.of km) pr, km _ _ hP, pipe_all (Tups.of km) pp, ok', fun H' b ya => ⟨rfl, ?_⟩⟩
    exact q _ _ (k0.trans' (mk_after hx mm b)) ya
abbrev s_compiled : Stmt := top 65
abbrev N_compiled : List Str := ["term", "draft"]
theorem sc_compiled : FnScope N_compiled ["term"] (defScope s_compiled) := ⟨rfl, rfl, rfl, by decide +kernel, rfl, by decide +kernel, by decide +kernel⟩
theorem ok_compiled (F : Fun K "compiled" "compiled" s_compiled f fd) (c_want_term : C8.Cal P w K mg base 4 "want_term" spWantTerm []) (mk_Draft : C8.Mak P w K mg base 1 "Draft" CD (spDrInit CD C) []) (m_Draft_whole : C8.Met P w K mg base 29 CD "whole" (spWhole CD C 9) []) (m_Draft_made : C8.Met P w K mg base 9 CD "made" (spMade CD CY C) []) : FnOk P w K mg base CX0 30 f fd ["term"] (spCompiled CY C) := by
  refine F.ok sc_compiled (fun vs H Q E h => ?_) (fun cdv A outer s H vs Q E hr h => ?_)
  · obtain ⟨v, t, rfl, _⟩ := h
    rfl
  obtain ⟨v, t, rfl, ta, tn, sok, q⟩ := h
  refine ⟨_, (pss_cons (ps_expr (C8.pe_c c_want_term hr (by decide) rfl (pa_cons (pv 0) pa_nil)))
        (pss_cons (ps_set (i := 1) sc_compiled.nd rfl (Or.inl rfl) (pe_mk0 mk_Draft hr (by decide) rfl))
        (pss_cons (ps_expr (C8.pe_mt m_Draft_whole hr (by decide) (pv 1) (pa_cons (pv 0) (pa_cons pe_non pa_nil))))
        (pss_one (ps_ret (C8.pe_mt0 m_Draft_made hr (by decide) (pv 1))))))), ?_⟩
  refine ⟨_, rfl, v, t, rfl, ta, tn, fun H1 s1 => ?_⟩
  intro x dx hx hdx hne
  have mm := mk_same (C := CD) hx hdx
  refine ⟨x, dx, rfl, upd_same, fun H2 S Pp b hS hP dr => ⟨rfl, ?_⟩⟩
  have s2 : Same H1 H2 := mk_after hx mm b
  have s12 := s1.trans' s2
  obtain ⟨dx2, hd2⟩ := dr.ob
  refine ⟨_, rfl, x, dx2, _, rfl, hd2, lkW S Pp, _, rfl, ?_⟩
  refine ⟨x, S, Pp, v, .non, t, none, [], [], rfl, dr, ta.keep (Tups.of s12), tn, by omega, rfl, by simp; omega, Nat.le_refl _, fun H3 v3 f3 dr3 hv3 => ?_⟩
  obtain ⟨dx3, hd3⟩ := dr3.ob
  refine ⟨_, rfl, x, dx3, _, rfl, hd3, lkM S Pp, ?_⟩
  refine ⟨x, S, Pp, _, _, rfl, dr3, sok, fun H4 y s4 ya => q _ _ (fun b o e => ?_) ya⟩
  have n1 : ∀ {p : Addr}, upd (upd H1 dx (.own x)) x (.ins CD dx []) p = none → H1 p = none := fun {p} z => by
    cases e' : H1 p with
    | none => rfl
    | some o' => rw [mm _ _ e'] at z; cases z
  have e1 := s1 _ _ e
  exact s4 _ _ (f3 _ _ (ne_of_none e1 (n1 hS)) (ne_of_none e1 (n1 hP)) (s2 _ _ e1))
end
end FY


set_option Elab.async false
set_option linter.all false
set_option maxRecDepth 100000
set_option maxHeartbeats 4000000
namespace FY
open PySem L2 FYR
/-! ## displays: what is made of the heap H0 or of a later one -/
def Dis (σ : St) (H0 : Hp) (te : TE) (R : Hp → V → Prop) : Prop := ∀ H Q, Same H0 H → (∀ H' v, Same H H' → R H' v → Q v H') → te σ H Q
def DisA (σ : St) (H0 : Hp) (ta : L2.TA) (R : Hp → List V → Prop) : Prop := ∀ H Q, Same H0 H → (∀ H' vs, Same H H' → R H' vs → Q vs H') → ta σ H Q
section
variable {σ : St} {H0 : Hp} {te tl : TE} {ta : L2.TA}
theorem dis_nil {α : Type} {R : Hp → V → α → Prop} : DisA σ H0 tNil (fun H vs => Paired (R H) vs []) := fun H Q s q => q H [] (Same.refl _) .nil
theorem dis_cons {α : Type} {R : Hp → V → α → Prop} {x : α} {xs : List α} (mon : ∀ H H' v, Same H H' → R H v x → R H' v x) (h : Dis σ H0 te (fun H v => R H v x)) (h2 : DisA σ H0 ta (fun H vs => Paired (R H) vs xs)) : DisA σ H0 (tCons te ta) (fun H vs => Paired (R H) vs (x :: xs)) :=
  fun H Q s q => h H _ s fun H1 v s1 r1 => h2 H1 _ (s.trans' s1) fun H2 vs s2 r2 => q H2 (v :: vs) (s1.trans' s2) (.cons (mon _ _ _ s2 r1) r2)
theorem rw_mon (r : Rw) : ∀ H H' v, Same H H' → RwA H v r → RwA H' v r := fun _ _ _ s h => h.keep (Tups.of s)
theorem to_mon (A : List Addr) (x : Sg) : ∀ H H' v, Same H H' → ToldX A H v x → ToldX A H' v x := fun _ _ _ s h => h.kl (KL.of s)
theorem dis_row {z : Str} (b : List Bool) (n : Nat) (e : z = tx b) : Dis σ H0 (tTup (tCons (tTup (tCons (tC (.str z)) tNil)) (tCons (tC (.int (n : Int))) (tCons (tC (.int 1)) tNil)))) (fun H v => RwA H v (r1 b n)) := fun H Q s q => by
  subst e
  exact ⟨sz rfl, fun g hg => ⟨sz rfl, fun a ha => q _ _ ((same_new hg _).trans' (same_new ha _)) ⟨a, g, rfl, upd_same, same_new ha _ _ _ upd_same⟩⟩⟩
theorem dis_cp {z : Str} (b : Bool) (e : z = tx [b]) : Dis σ H0 (tTup (tCons (tTup (tCons (tC (.str z)) (tCons (tC (.str z)) tNil))) (tCons (tC (.int 0)) (tCons (tC (.int 1)) tNil)))) (fun H v => RwA H v (cpR b)) := fun H Q s q => by
  subst e
  exact ⟨sz rfl, fun g hg => ⟨sz rfl, fun a ha => q _ _ ((same_new hg _).trans' (same_new ha _)) ⟨a, g, rfl, upd_same, same_new ha _ _ _ upd_same⟩⟩⟩
def RowsX (A : List Addr) (H : Hp) (v : V) (rs : List Rw) : Prop := ∃ l ws, v = .ref l ∧ l ∉ A ∧ H l = some (.lst ws) ∧ Paired (RwA H) ws rs
def StgsX (A : List Addr) (H : Hp) (v : V) (ss : List Sg) : Prop := ∃ l ws, v = .ref l ∧ l ∉ A ∧ H l = some (.lst ws) ∧ Paired (ToldX A H) ws ss
theorem dis_rows {A : List Addr} {rs : List Rw} (hA : ∀ a ∈ A, H0 a ≠ none) (hl : rs.length ≤ 1000) (h : DisA σ H0 ta (fun H vs => Paired (RwA H) vs rs)) : Dis σ H0 (tLst ta) (fun H v => RowsX A H v rs) := fun H Q s q => by
  refine h H _ s fun H1 vs s1 p1 => ⟨Nat.le_trans (show vs.length ≤ 1000 by rw [paired_len p1]; exact hl) (by decide), fun l hn => ?_⟩
  have k := same_new hn (.lst vs)
  refine q _ _ (s1.trans' k) ⟨l, vs, rfl, fun m => ?_, upd_same, rwA_all (Tups.of k) p1⟩
  cases e : H0 l with
  | none => exact hA l m e
  | some o => rw [(s.trans' s1) _ _ e] at hn; cases hn
theorem dis_told {A : List Addr} {rs : List Rw} {z : Str} (r : Rd) (e : z = r.s) (h : Dis σ H0 tl (fun H v => RowsX A H v rs)) : Dis σ H0 (tTup (tCons (tC (.str z)) (tCons tl tNil))) (fun H v => ToldX A H v ⟨r, rs⟩) := fun H Q s q => by
  subst e
  refine h H _ s fun H1 v1 s1 ⟨l, ws, ev, nl, hl, p⟩ => ⟨sz rfl, fun a ha => ?_⟩
  subst ev
  have k := same_new ha (.tup [.str r.s, .ref l])
  exact q _ _ (s1.trans' k) ⟨a, l, ws, rfl, upd_same, nl, k _ _ hl, rwA_all (Tups.of k) p⟩
theorem dis_stgs {A : List Addr} {ss : List Sg} (hA : ∀ a ∈ A, H0 a ≠ none) (hl : ss.length ≤ 1000) (h : DisA σ H0 ta (fun H vs => Paired (ToldX A H) vs ss)) : Dis σ H0 (tLst ta) (fun H v => StgsX A H v ss) := fun H Q s q => by
  refine h H _ s fun H1 vs s1 p1 => ⟨Nat.le_trans (show vs.length ≤ 1000 by rw [paired_len p1]; exact hl) (by decide), fun l hn => ?_⟩
  have k := same_new hn (.lst vs)
  refine q _ _ (s1.trans' k) ⟨l, vs, rfl, fun m => ?_, upd_same, toldX_all (KL.of k) p1⟩
  cases e : H0 l with
  | none => exact hA l m e
  | some o => rw [(s.trans' s1) _ _ e] at hn; cases hn
theorem dis_stat {A : List Addr} {ss : List Sg} (i o : Nat) (h : Dis σ H0 tl (fun H v => StgsX A H v ss)) : Dis σ H0 (tTup (tCons (tC (.int (i : Int))) (tCons (tC (.int (o : Int))) (tCons tl tNil)))) (fun H v => DatA A H v ⟨i, o, ss⟩) := fun H Q s q => by
  refine h H _ s fun H1 v1 s1 ⟨l, ws, ev, nl, hl, p⟩ => ⟨sz rfl, fun a ha => ?_⟩
  subst ev
  have k := same_new ha (.tup [.int (i : Int), .int (o : Int), .ref l])
  exact q _ _ (s1.trans' k) ⟨a, l, ws, rfl, upd_same, nl, k _ _ hl, toldX_all (KL.of k) p⟩
end
theorem tNext_i {D : Ends} {σ : St} {H : Hp} (h : D.nx σ H) : tNext D σ H := h
theorem tRet_i {te : TE} {D : Ends} {σ : St} {H : Hp} (h : te σ H D.rt) : tRet te D σ H := h
theorem gName_i {i : Nat} {x : V} {σ : St} {H : Hp} {k : St → Hp → Prop} (h : k (σ.set i (some x)) H) : gName i x σ H k := h
theorem rd1 : ("1" : Str) = Rd.one.s := rfl
theorem rd12 : ("12" : Str) = Rd.both.s := rfl
def spLSt : Sp := fun vs H Q _ => ∃ (v : V) (t : Tm) (A : List Addr), vs = [v] ∧ TA H v t ∧ t.isIn = false ∧ t.isThn = false ∧ (∀ a ∈ A, H a ≠ none) ∧ ∀ H' v', Same H H' → DatA A H' v' (stOf t) → Q v' H'
abbrev lstSc : Scope := { kind := .function, names := [(".0", .local), ("_law_held", .cell), ("_law_goals", .cell)], isGenerator := false, isCoroutine := false }
section
variable {P : Program} {w : World} {K : PySem.W.Frag} {mg : Str → Option Value} {base : Heap} {aS a1 a2 aL aT : Addr} {f : Addr} {fd : FuncData} {C CD CY : Addr} {mc : Value}
abbrev s_law_station : Stmt := top 71
abbrev N_law_station : List Str := ["_law_term_here", "_law_word", "_law_goals", "_law_other", "_law_sign", "_law_held", "_law_goal"]
theorem sc_law_station : FnScope N_law_station ["_law_term_here"] (defScope s_law_station) := ⟨rfl, rfl, rfl, by decide +kernel, rfl, by decide +kernel, by decide +kernel⟩
theorem ok_law_station (F : Fun K "_law_station" "_law_station" s_law_station f fd) (T : Txt K mg aS a1 a2) : FnOk P w K mg base CX0 1 f fd ["_law_term_here"] spLSt := by
  refine F.ok sc_law_station (fun vs H Q E h => ?_) (fun cdv A outer s H vs Q E hr h => ?_)
  · obtain ⟨v, t, A, rfl, _⟩ := h
    rfl
  obtain ⟨v, t, A', rfl, ta, hin, hth, hA, q⟩ := h
  refine ⟨_, (pss_cons (ps_set (i := 1) sc_law_station.nd rfl (Or.inl rfl) (pe_ix (kIxT K rfl) (pv 0) pe_int (fun _ _ => rfl)))
        (pss_cons (ps_if (pt_cmpR op_eq (pv 1) pe_str (nomark _))
        (pss_one (ps_ret (pe_tup (pa_cons pe_int (pa_cons pe_int (pa_cons (pe_lst (pa_cons (pe_tup (pa_cons pe_str (pa_cons (pe_lst (pa_cons (pe_tup (pa_cons (pe_tup (pa_cons pe_str pa_nil)) (pa_cons pe_int (pa_cons pe_int pa_nil)))) (pa_cons (pe_tup (pa_cons (pe_tup (pa_cons pe_str pa_nil)) (pa_cons pe_int (pa_cons pe_int pa_nil)))) pa_nil))) pa_nil))) pa_nil)) pa_nil))))))
        pss_nil)
        (pss_cons (ps_if (pt_cmpR op_eq (pv 1) pe_str (nomark _))
        (pss_one (ps_ret (pe_tup (pa_cons pe_int (pa_cons pe_int (pa_cons (pe_lst (pa_cons (pe_tup (pa_cons pe_str (pa_cons (pe_lst (pa_cons (pe_tup (pa_cons (pe_tup (pa_cons pe_str pa_nil)) (pa_cons pe_int (pa_cons pe_int pa_nil)))) (pa_cons (pe_tup (pa_cons (pe_tup (pa_cons pe_str pa_nil)) (pa_cons pe_int (pa_cons pe_int pa_nil)))) pa_nil))) pa_nil))) pa_nil)) pa_nil))))))
        pss_nil)
        (pss_cons (ps_if (pt_cmpR op_eq (pv 1) pe_str (nomark _))
        (pss_one (ps_ret (pe_tup (pa_cons pe_int (pa_cons pe_int (pa_cons (pe_lst (pa_cons (pe_tup (pa_cons pe_str (pa_cons (pe_lst (pa_cons (pe_tup (pa_cons (pe_tup (pa_cons pe_str pa_nil)) (pa_cons pe_int (pa_cons pe_int pa_nil)))) (pa_cons (pe_tup (pa_cons (pe_tup (pa_cons pe_str pa_nil)) (pa_cons pe_int (pa_cons pe_int pa_nil)))) pa_nil))) pa_nil))) (pa_cons (pe_tup (pa_cons pe_str (pa_cons (pe_lst (pa_cons (pe_tup (pa_cons (pe_tup (pa_cons pe_str pa_nil)) (pa_cons pe_int (pa_cons pe_int pa_nil)))) (pa_cons (pe_tup (pa_cons (pe_tup (pa_cons pe_str pa_nil)) (pa_cons pe_int (pa_cons pe_int pa_nil)))) pa_nil))) pa_nil))) pa_nil))) pa_nil))))))
        pss_nil)
        (pss_cons (ps_if (pt_cmpR op_eq (pv 1) pe_str (nomark _))
        (pss_cons (ps_set (i := 2) sc_law_station.nd rfl (Or.inr rfl) (pe_lc (own := [("_law_sign", 4)]) rfl sc_law_station.nd (pi_str pe_str) (blkOk_by (N := N_law_station) (sc := defScope s_law_station) (by decide +kernel)) (fun _ _ _ _ _ => (pg_name (i := 4) sc_law_station.nd rfl (Or.inl rfl))) (fun _ _ _ _ _ => pts_nil) (fun _ _ _ _ _ => (pe_callTy call_int1 rfl T.b_int bt_int (pa_cons (pe_cmpR op_ne (pv 4) (pe_ix (kIxT K rfl) (pv 0) pe_int (fun _ _ => rfl)) (nomark _)) pa_nil)))))
        (pss_cons (ps_set (i := 3) sc_law_station.nd rfl (Or.inl rfl) (pe_dget (hu1 hr) (pe_disp (pps_cons pe_str pe_str (pps_cons pe_str pe_str pps_nil)) rfl rfl (by decide) (by decide)) (pe_ix (kIxT K rfl) (pv 0) pe_int (fun _ _ => rfl)) (fun _ _ => rfl)))
        (pss_one (ps_ret (pe_tup (pa_cons pe_int (pa_cons pe_int (pa_cons (pe_lc (own := [("_law_held", 5)]) rfl sc_law_station.nd (kTup K rfl (pe_tup (pa_cons (pe_ix (kIxT K rfl) (pv 0) pe_int (fun _ _ => rfl)) (pa_cons (pv 3) pa_nil)))) (blkOk_by (N := N_law_station) (sc := defScope s_law_station) (by decide +kernel)) (fun _ _ _ _ _ => (pg_name (i := 5) sc_law_station.nd rfl (Or.inr rfl))) (fun _ _ _ _ _ => pts_nil) (fun _ _ _ _ _ => (pe_tup (pa_cons pe_str (pa_cons (pe_lc (own := [("_law_goal", 6)]) rfl sc_law_station.nd (kList K rfl (pv 2)) (blkOk_by (N := N_law_station) (sc := lstSc) (by decide +kernel)) (fun _ _ _ _ _ => (pg_name (i := 6) sc_law_station.nd rfl (Or.inl rfl))) (fun _ _ _ _ _ => pts_nil) (fun _ _ _ _ _ => (pe_tup (pa_cons (pe_tup (pa_cons (pv 5) pa_nil)) (pa_cons (pv 6) (pa_cons pe_int pa_nil)))))) pa_nil))))) pa_nil))))))))
        pss_nil)
        (pss_cons (ps_if (pt_cmpR op_eq (pv 1) pe_str (nomark _))
        (pss_one (ps_ret (pe_tup (pa_cons pe_int (pa_cons pe_int (pa_cons (pe_lst (pa_cons (pe_tup (pa_cons pe_str (pa_cons (pe_lst (pa_cons (pe_tup (pa_cons (pe_tup (pa_cons pe_str pa_nil)) (pa_cons pe_int (pa_cons pe_int pa_nil)))) (pa_cons (pe_tup (pa_cons (pe_tup (pa_cons pe_str pa_nil)) (pa_cons pe_int (pa_cons pe_int pa_nil)))) pa_nil))) pa_nil))) (pa_cons (pe_tup (pa_cons pe_str (pa_cons (pe_lst (pa_cons (pe_tup (pa_cons (pe_tup (pa_cons pe_str pa_nil)) (pa_cons pe_int (pa_cons pe_int pa_nil)))) (pa_cons (pe_tup (pa_cons (pe_tup (pa_cons pe_str pa_nil)) (pa_cons pe_int (pa_cons pe_int pa_nil)))) pa_nil))) pa_nil))) pa_nil))) pa_nil))))))
        pss_nil)
        (pss_cons (ps_if (pt_cmpR op_eq (pv 1) pe_str (nomark _))
        (pss_one (ps_ret (pe_tup (pa_cons pe_int (pa_cons pe_int (pa_cons (pe_lst (pa_cons (pe_tup (pa_cons pe_str (pa_cons (pe_lst (pa_cons (pe_tup (pa_cons (pe_tup (pa_cons pe_str pa_nil)) (pa_cons pe_int (pa_cons pe_int pa_nil)))) (pa_cons (pe_tup (pa_cons (pe_tup (pa_cons pe_str pa_nil)) (pa_cons pe_int (pa_cons pe_int pa_nil)))) pa_nil))) pa_nil))) (pa_cons (pe_tup (pa_cons pe_str (pa_cons (pe_lst (pa_cons (pe_tup (pa_cons (pe_tup (pa_cons pe_str pa_nil)) (pa_cons pe_int (pa_cons pe_int pa_nil)))) (pa_cons (pe_tup (pa_cons (pe_tup (pa_cons pe_str pa_nil)) (pa_cons pe_int (pa_cons pe_int pa_nil)))) pa_nil))) pa_nil))) pa_nil))) pa_nil))))))
        pss_nil)
        (pss_cons (ps_if (pt_cmpR op_eq (pv 1) pe_str (nomark _))
        (pss_one (ps_ret (pe_tup (pa_cons pe_int (pa_cons pe_int (pa_cons (pe_lst (pa_cons (pe_tup (pa_cons pe_str (pa_cons (pe_lc (own := [("_law_sign", 4)]) rfl sc_law_station.nd (pi_str (pe_ix (kIxT K rfl) (pv 0) pe_int (fun _ _ => rfl))) (blkOk_by (N := N_law_station) (sc := defScope s_law_station) (by decide +kernel)) (fun _ _ _ _ _ => (pg_name (i := 4) sc_law_station.nd rfl (Or.inl rfl))) (fun _ _ _ _ _ => pts_nil) (fun _ _ _ _ _ => (pe_tup (pa_cons (pe_tup (pa_cons (pv 4) pa_nil)) (pa_cons pe_int (pa_cons pe_int pa_nil)))))) pa_nil))) pa_nil)) pa_nil))))))
        pss_nil)
        (pss_one (ps_ret (pe_tup (pa_cons pe_int (pa_cons pe_int (pa_cons (pe_lst (pa_cons (pe_tup (pa_cons pe_str (pa_cons (pe_lst (pa_cons (pe_tup (pa_cons (pe_tup (pa_cons pe_str pa_nil)) (pa_cons pe_int (pa_cons pe_int pa_nil)))) (pa_cons (pe_tup (pa_cons (pe_tup (pa_cons pe_str pa_nil)) (pa_cons pe_int (pa_cons pe_int pa_nil)))) (pa_cons (pe_tup (pa_cons (pe_tup (pa_cons pe_str pa_nil)) (pa_cons pe_int (pa_cons pe_int pa_nil)))) (pa_cons (pe_tup (pa_cons (pe_tup (pa_cons pe_str pa_nil)) (pa_cons pe_int (pa_cons pe_int pa_nil)))) pa_nil))))) pa_nil))) pa_nil)) pa_nil)))))))))))))), ?_⟩
  cases t with
  | inn => cases hin
  | thn _ _ => cases hth
  | one w t =>
    obtain ⟨a, x, rfl, h, r⟩ := ta
    cases w with
    | no =>
      refine ⟨_, rfl, _, _, _, _, rfl, rfl, SqT.of h, rfl, ?_⟩
      refine ⟨_, rfl, rfl, _, rfl, iteTd (by decide +kernel) ?_⟩
      exact (dis_stat 1 1 (dis_stgs hA (by decide) (dis_cons (to_mon A' _) (dis_told .one rd1 (dis_rows hA (by decide) (dis_cons (rw_mon _) (dis_row [true] 0 z1) (dis_cons (rw_mon _) (dis_row [false] 0 z0) dis_nil)))) dis_nil))) H _ (Same.refl _) fun H' v' s' r' => q _ _ s' r'
    | twice =>
      refine ⟨_, rfl, _, _, _, _, rfl, rfl, SqT.of h, rfl, ?_⟩
      refine ⟨_, rfl, rfl, _, rfl, iteFd (by decide +kernel) ?_⟩
      refine ⟨_, rfl, rfl, _, rfl, iteTd (by decide +kernel) ?_⟩
      exact (dis_stat 1 1 (dis_stgs hA (by decide) (dis_cons (to_mon A' _) (dis_told .one rd1 (dis_rows hA (by decide) (dis_cons (rw_mon _) (dis_row [false, false] 0 z00) (dis_cons (rw_mon _) (dis_row [true, true] 0 z11) dis_nil)))) dis_nil))) H _ (Same.refl _) fun H' v' s' r' => q _ _ s' r'
    | half =>
      refine ⟨_, rfl, _, _, _, _, rfl, rfl, SqT.of h, rfl, ?_⟩
      refine ⟨_, rfl, rfl, _, rfl, iteFd (by decide +kernel) ?_⟩
      refine ⟨_, rfl, rfl, _, rfl, iteFd (by decide +kernel) ?_⟩
      refine ⟨_, rfl, rfl, _, rfl, iteTd (by decide +kernel) ?_⟩
      exact (dis_stat 1 1 (dis_stgs hA (by decide) (dis_cons (to_mon A' _) (dis_told .one rd1 (dis_rows hA (by decide) (dis_cons (rw_mon _) (dis_row [] 1 ze) (dis_cons (rw_mon _) (dis_row [] 1 ze) dis_nil)))) (dis_cons (to_mon A' _) (dis_told .one rd1 (dis_rows hA (by decide) (dis_cons (rw_mon _) (dis_row [false] 0 z0) (dis_cons (rw_mon _) (dis_row [true] 0 z1) dis_nil)))) dis_nil)))) H _ (Same.refl _) fun H' v' s' r' => q _ _ s' r'
    | change =>
      refine ⟨_, rfl, _, _, _, _, rfl, rfl, SqT.of h, rfl, ?_⟩
      refine ⟨_, rfl, rfl, _, rfl, iteFd (by decide +kernel) ?_⟩
      refine ⟨_, rfl, rfl, _, rfl, iteFd (by decide +kernel) ?_⟩
      refine ⟨_, rfl, rfl, _, rfl, iteFd (by decide +kernel) ?_⟩
      refine ⟨_, rfl, rfl, _, rfl, iteFd (by decide +kernel) ?_⟩
      refine ⟨_, rfl, rfl, _, rfl, iteTd (by decide +kernel) ?_⟩
      exact (dis_stat 1 1 (dis_stgs hA (by decide) (dis_cons (to_mon A' _) (dis_told .one rd1 (dis_rows hA (by decide) (dis_cons (rw_mon _) (dis_row [false] 0 z0) (dis_cons (rw_mon _) (dis_row [true] 1 z1) dis_nil)))) (dis_cons (to_mon A' _) (dis_told .one rd1 (dis_rows hA (by decide) (dis_cons (rw_mon _) (dis_row [true] 0 z1) (dis_cons (rw_mon _) (dis_row [false] 1 z0) dis_nil)))) dis_nil)))) H _ (Same.refl _) fun H' v' s' r' => q _ _ s' r'
    | count =>
      refine ⟨_, rfl, _, _, _, _, rfl, rfl, SqT.of h, rfl, ?_⟩
      refine ⟨_, rfl, rfl, _, rfl, iteFd (by decide +kernel) ?_⟩
      refine ⟨_, rfl, rfl, _, rfl, iteFd (by decide +kernel) ?_⟩
      refine ⟨_, rfl, rfl, _, rfl, iteFd (by decide +kernel) ?_⟩
      refine ⟨_, rfl, rfl, _, rfl, iteFd (by decide +kernel) ?_⟩
      refine ⟨_, rfl, rfl, _, rfl, iteFd (by decide +kernel) ?_⟩
      refine ⟨_, rfl, rfl, _, rfl, iteTd (by decide +kernel) ?_⟩
      exact (dis_stat 1 1 (dis_stgs hA (by decide) (dis_cons (to_mon A' _) (dis_told .one rd1 (dis_rows hA (by decide) (dis_cons (rw_mon _) (dis_row [false] 0 z0) (dis_cons (rw_mon _) (dis_row [true] 1 z1) dis_nil)))) (dis_cons (to_mon A' _) (dis_told .one rd1 (dis_rows hA (by decide) (dis_cons (rw_mon _) (dis_row [true] 1 z1) (dis_cons (rw_mon _) (dis_row [false] 0 z0) dis_nil)))) dis_nil)))) H _ (Same.refl _) fun H' v' s' r' => q _ _ s' r'
  | keep t u =>
    obtain ⟨a, x, y, rfl, h, r, r'⟩ := ta
    refine ⟨_, rfl, _, _, _, _, rfl, rfl, SqT.of h, rfl, ?_⟩
    refine ⟨_, rfl, rfl, _, rfl, iteFd (by decide +kernel) ?_⟩
    refine ⟨_, rfl, rfl, _, rfl, iteFd (by decide +kernel) ?_⟩
    refine ⟨_, rfl, rfl, _, rfl, iteFd (by decide +kernel) ?_⟩
    refine ⟨_, rfl, rfl, _, rfl, iteFd (by decide +kernel) ?_⟩
    refine ⟨_, rfl, rfl, _, rfl, iteFd (by decide +kernel) ?_⟩
    refine ⟨_, rfl, rfl, _, rfl, iteFd (by decide +kernel) ?_⟩
    refine ⟨_, rfl, rfl, _, rfl, iteFd (by decide +kernel) ?_⟩
    refine tNext_i ?_
    dsimp only
    refine tRet_i ?_
    exact (dis_stat 2 1 (dis_stgs hA (by decide) (dis_cons (to_mon A' _) (dis_told .both rd12 (dis_rows hA (by decide) (dis_cons (rw_mon _) (dis_row [] 0 ze) (dis_cons (rw_mon _) (dis_row [false] 0 z0) (dis_cons (rw_mon _) (dis_row [] 0 ze) (dis_cons (rw_mon _) (dis_row [true] 0 z1) dis_nil)))))) dis_nil))) H _ (Same.refl _) fun H' v' s' r' => q _ _ s' r'
  | byy b1 b2 b3 b4 t u =>
    obtain ⟨a, x, y, rfl, h, r, r'⟩ := ta
    refine ⟨_, rfl, _, _, _, _, rfl, rfl, SqT.of h, rfl, ?_⟩
    refine ⟨_, rfl, rfl, _, rfl, iteFd (by decide +kernel) ?_⟩
    refine ⟨_, rfl, rfl, _, rfl, iteFd (by decide +kernel) ?_⟩
    refine ⟨_, rfl, rfl, _, rfl, iteFd (by decide +kernel) ?_⟩
    refine ⟨_, rfl, rfl, _, rfl, iteFd (by decide +kernel) ?_⟩
    refine ⟨_, rfl, rfl, _, rfl, iteFd (by decide +kernel) ?_⟩
    refine ⟨_, rfl, rfl, _, rfl, iteFd (by decide +kernel) ?_⟩
    refine ⟨_, rfl, rfl, _, rfl, iteTd (by decide +kernel) ?_⟩
    refine (dis_stat 2 1 (dis_stgs hA (by simp) (dis_cons (to_mon A' _) (dis_told .both rd12 (rs := [r1 [b1] 0, r1 [b2] 0, r1 [b3] 0, r1 [b4] 0]) ?_) dis_nil))) H _ (Same.refl _) fun H' v' s' r' => q _ _ s' r'
    intro H1 Q1 s1 q1
    refine ⟨_, rfl, _, _, _, _, rfl, rfl, SqT.of (s1 _ _ h), rfl, _, rfl, fun D hD => lc_it walk_str (fun i H' => Same H1 H' ∧ ∃ us, H' D = some (.lst us) ∧ Paired (RwA H') us (([b1, b2, b3, b4].take i).map fun x => r1 [x] 0)) ⟨same_new hD _, [], upd_same, .nil⟩ (fun _ _ _ _ => trivial) ?_ ?_⟩
    · rintro i x H2 H3 hi ⟨sm, us, hd, pu⟩ ⟨rfl, c, hc, rfl⟩
      obtain ⟨x, hx, rfl⟩ := tx_char hc
      have hil := lt_len hx
      have hlu := paired_len pu
      refine ⟨rfl, tyI ⟨_, rfl, sz rfl, fun g hg => ⟨sz rfl, fun a ha => ?_⟩⟩⟩
      have k1 := same_new hg (.tup [.str ⟨#[cd x]⟩])
      have k2 := same_new ha (.tup [.ref g, .int 0, .int 1])
      have hd2 := k2 _ _ (k1 _ _ hd)
      refine ⟨_, hd2, ?_, same_at ((sm.trans' k1).trans' k2) hD, us ++ [.ref a], upd_same, ?_⟩
      · rw [List.length_map, List.length_take] at hlu
        exact Nat.lt_of_lt_of_le (show us.length < 100000 by have : i < 4 := hil; omega) (by decide)
      · rw [← take_one _ hx]
        exact paired_app (rwA_all ((Tups.of (k1.trans' k2)).trans (tups_at hd2)) pu) (.cons ⟨a, g, rfl, tups_at hd2 _ _ upd_same, tups_at hd2 _ _ (k2 _ _ upd_same)⟩ .nil)
    · rintro H2 ⟨sm, us, hd, pu⟩
      refine q1 _ _ sm ⟨D, us, rfl, fun m => ?_, hd, pu⟩
      cases e : H D with
      | none => exact hA D m e
      | some o => rw [s1 _ _ e] at hD; cases hD
  | late b t =>
    obtain ⟨a, x, rfl, h, r⟩ := ta
    refine ⟨_, rfl, _, _, _, _, rfl, rfl, SqT.of h, rfl, ?_⟩
    refine ⟨_, rfl, rfl, _, rfl, iteFd (by decide +kernel) ?_⟩
    refine ⟨_, rfl, rfl, _, rfl, iteFd (by decide +kernel) ?_⟩
    refine ⟨_, rfl, rfl, _, rfl, iteFd (by decide +kernel) ?_⟩
    refine ⟨_, rfl, rfl, _, rfl, iteTd (by decide +kernel) ?_⟩
    rw [z01]
    refine ⟨_, rfl, fun D hD => lc_it walk_str (fun i H' => Same H H' ∧ H' D = some (.lst (([false, true].take i).map fun x => V.int (gl b x : Nat)))) ⟨same_new hD _, upd_same⟩ (fun _ _ _ _ => trivial) ?_ ?_⟩
    · rintro i x H1 H2 hi ⟨sm, hd⟩ ⟨rfl, c, hc, rfl⟩
      obtain ⟨x, hx, rfl⟩ := tx_char hc
      have hil := lt_len hx
      refine ⟨rfl, tyI ⟨_, rfl, _, rfl, _, _, _, _, rfl, rfl, SqT.of (sm _ _ h), rfl, rfl, .inr ⟨_, rfl, ?_⟩⟩⟩
      rw [sg_ne']
      refine ⟨_, hd, take_len_le _ _ _ (by have : i < 2 := hil; omega), same_at sm hD, ?_⟩
      rw [upd_same, ← take_one _ hx]
      cases x <;> cases b <;> rfl
    · rintro H1 ⟨sm, hd⟩
      rw [tx_size, List.take_of_length_le (Nat.le_refl _)] at hd
      have h1 := sm _ _ h
      refine fun p hp0 => ⟨upd_same, [(.inr "0", .str "1"), (.inr "1", .str "0")], rfl, by decide, ?_⟩
      have hap : a ≠ p := fun z => by rw [z, hp0] at h1; cases h1
      rw [upd_upd]
      have kp := same_new hp0 (.dK (mergeK [] [(.inr "0", .str "1"), (.inr "1", .str "0")]))
      have h2 := kp _ _ h1
      refine ⟨_, rfl, _, _, _, _, rfl, rfl, SqT.of h2, rfl, _, .str (sgn (!b)), rfl, .inl ⟨_, .inr (sgn b), .inl upd_same, rfl, ?_⟩, ?_⟩
      · cases b <;> decide +kernel
      obtain ⟨H2, hH2⟩ : ∃ H2, H2 = upd H1 p (.dK (mergeK [] [(.inr "0", .str "1"), (.inr "1", .str "0")])) := ⟨_, rfl⟩
      rw [← hH2] at h2 kp ⊢
      clear hH2
      have hd2 := kp _ _ hd
      have s02 := sm.trans' kp
      have hA2 : ∀ a ∈ A', H2 a ≠ none := fun c hc e => by
        cases e' : H c with
        | none => exact hA c hc e'
        | some o => rw [s02 _ _ e'] at e; cases e
      refine gName_i ?_
      dsimp only
      refine tRet_i ?_
      refine (dis_stat (A := A') 1 1 (ss := (wayOf (rowsLate b)).stgs) ?_) H2 _ (Same.refl _) fun H' v' s' r' => q _ _ (s02.trans' s') r'
      intro H3 Q3 s3 q3
      refine ⟨_, rfl, _, _, _, _, rfl, rfl, SqT.of (s3 _ _ h2), rfl, _, rfl, sz rfl, fun T0 hT0 => ⟨_, rfl, ⟨_, SqT.of upd_same⟩, fun R hR => ?_⟩⟩
      have k0 := same_new hT0 (.tup [.str (sgn b), .str (sgn (!b))])
      have hd3 := k0 _ _ (s3 _ _ hd2)
      have hRA : R ∉ A' := fun m => by
        cases e' : H2 R with
        | none => exact hA2 R m e'
        | some o => rw [(s3.trans' k0) _ _ e'] at hR; cases hR
      refine lc_it walk_tup (fun i H' => Same (upd H3 T0 (.tup [.str (sgn b), .str (sgn (!b))])) H' ∧ ∃ us, H' R = some (.lst us) ∧ Paired (ToldX (R :: A') H') us (([b, !b].take i).map fun x => ⟨.one, [r1 [x] (gl b false), r1 [x] (gl b true)]⟩)) ⟨same_new hR _, [], upd_same, .nil⟩ (fun i H' _ z => SqT.of (z.1 _ _ upd_same)) ?_ ?_
      · rintro i x H4 H5 hi ⟨sm4, us, hR4, pu⟩ ⟨rfl, hx⟩
        obtain ⟨y, hy, rfl⟩ := List.getElem?_map_some (f := fun x : Bool => V.str (sgn x)) (l := [b, !b]) hx
        have hil := lt_len hy
        have hlu := paired_len pu
        have hd4 := sm4 _ _ hd3
        refine ⟨rfl, tyI ⟨_, rfl, _, rfl, ⟨_, SqL.of hd4⟩, fun D2 hD2 => ?_⟩⟩
        have hD2R : D2 ≠ R := fun z => by rw [z, hR4] at hD2; cases hD2
        have hD2A : D2 ∉ A' := fun m => by
          cases e' : H2 D2 with
          | none => exact hA2 D2 m e'
          | some o => rw [((s3.trans' k0).trans' sm4) _ _ e'] at hD2; cases hD2
        refine lc_it walk_list (fun k H' => Same H5 H' ∧ ∃ ws, H' D2 = some (.lst ws) ∧ Paired (RwA H') ws (([false, true].take k).map fun x => r1 [y] (gl b x))) ⟨same_new hD2 _, [], upd_same, .nil⟩ (fun k H' _ z => SqL.of (z.1 _ _ hd4)) ?_ ?_
        · rintro k z H6 H7 hk ⟨sm6, ws, hd6, pw⟩ ⟨rfl, hz⟩
          obtain ⟨g, hg, rfl⟩ := List.getElem?_map_some hz
          have hkl := lt_len hg
          have hlw := paired_len pw
          refine ⟨rfl, tyI ⟨_, rfl, sz rfl, fun g1 hg1 => ⟨_, rfl, sz rfl, fun a1 ha1 => ?_⟩⟩⟩
          have k1 := same_new hg1 (.tup [.str (sgn y)])
          have k2 := same_new ha1 (.tup [.ref g1, .int (gl b g : Nat), .int 1])
          have hd7 := k2 _ _ (k1 _ _ hd6)
          refine ⟨_, hd7, ?_, same_at ((sm6.trans' k1).trans' k2) hD2, ws ++ [.ref a1], upd_same, ?_⟩
          · rw [List.length_map, List.length_take] at hlw
            exact Nat.lt_of_lt_of_le (show ws.length < 100000 by have : k < 2 := hkl; omega) (by decide)
          · rw [← take_one _ hg]
            exact paired_app (rwA_all ((Tups.of (k1.trans' k2)).trans (tups_at hd7)) pw) (.cons ⟨a1, g1, rfl, tups_at hd7 _ _ upd_same, tups_at hd7 _ _ (k2 _ _ upd_same)⟩ .nil)
        · rintro H6 ⟨sm6, ws, hd6, pw⟩
          have pw2 : Paired (RwA H6) ws [r1 [y] (gl b false), r1 [y] (gl b true)] := pw
          refine ⟨sz rfl, fun p1 hp1 => ?_⟩
          have k8 := same_new hp1 (.tup [.str "1", .ref D2])
          have hR8 := k8 _ _ (sm6 _ _ hR4)
          have kl : KL (R :: A') H5 _ := (KL.of (sm6.trans' k8)).trans (KL.at (o := .lst (us ++ [.ref p1])) hR8 (by simp))
          refine ⟨_, hR8, ?_, same_at ((sm4.trans' sm6).trans' k8) hR, us ++ [.ref p1], upd_same, ?_⟩
          · rw [List.length_map, List.length_take] at hlu
            exact Nat.lt_of_lt_of_le (show us.length < 100000 by have : i < 2 := hil; omega) (by decide)
          · rw [← take_one _ hy]
            refine paired_app (toldX_all kl pu) (.cons ⟨p1, D2, ws, rfl, tups_at hR8 _ _ upd_same, by simp [hD2R, hD2A], ?_, rwA_all ((Tups.of k8).trans (tups_at hR8)) pw2⟩ .nil)
            rw [upd_ne hD2R]
            exact k8 _ _ hd6
      · rintro H4 ⟨sm4, us, hR4, pu⟩
        refine q3 _ _ (k0.trans' sm4) ⟨R, us, rfl, hRA, hR4, ?_⟩
        have e : (([b, !b].take [V.str (sgn b), V.str (sgn (!b))].length).map fun x => (⟨.one, [r1 [x] (gl b false), r1 [x] (gl b true)]⟩ : Sg)) = (wayOf (rowsLate b)).stgs := by cases b <;> rfl
        rw [← e]
        exact toldX_sub (fun x hx => List.mem_cons_of_mem _ hx) pu
end
end FY


set_option Elab.async false
set_option linter.all false
set_option maxRecDepth 100000
set_option maxHeartbeats 4000000
namespace FY
open PySem L2 FYR
def mdK (S Pp : Addr) : List (L2.Key × V) := [(.inr "stations", .ref S), (.inr "pipes", .ref Pp)]
theorem mdS (S Pp : Addr) : valV (mdK S Pp) (.inr "stations") = some (.ref S) := rfl
theorem mdP (S Pp : Addr) : valV (mdK S Pp) (.inr "pipes") = some (.ref Pp) := rfl
structure MdA (A : List Addr) (H : Hp) (m S Pp : Addr) (ts : List Stn) (ps : List Pipe) : Prop where
  ob : H m = some (.dK (mdK S Pp))
  st : ∃ vs, H S = some (.lst vs) ∧ Paired (DatA A H) vs ts
  pp : ∃ ws, H Pp = some (.lst ws) ∧ Paired (PipeA H) ws ps
  ne : S ≠ Pp
  al : ∀ a ∈ A, H a ≠ none
  mS : S ∈ A
  mP : Pp ∈ A
theorem MdA.gS {A : List Addr} {H : Hp} {m S Pp : Addr} {ts : List Stn} {ps : List Pipe} (h : MdA A H m S Pp ts ps) : DGet H m (.str "stations") (some (.ref S)) := .inl ⟨_, .inr "stations", .inl h.ob, rfl, (mdS S Pp).symm⟩
theorem MdA.gP {A : List Addr} {H : Hp} {m S Pp : Addr} {ts : List Stn} {ps : List Pipe} (h : MdA A H m S Pp ts ps) : DGet H m (.str "pipes") (some (.ref Pp)) := .inl ⟨_, .inr "pipes", .inl h.ob, rfl, (mdP S Pp).symm⟩
theorem MdA.kl {A : List Addr} {H H' : Hp} {m S Pp : Addr} {ts : List Stn} {ps : List Pipe} (h : MdA A H m S Pp ts ps) (k : KL A H H') (hS : ∀ xs, H S = some (.lst xs) → H' S = some (.lst xs)) (hP : ∀ xs, H Pp = some (.lst xs) → H' Pp = some (.lst xs)) (al : ∀ a ∈ A, H' a ≠ none) : MdA A H' m S Pp ts ps := by
  obtain ⟨vs, h1, p1⟩ := h.st
  obtain ⟨ws, h2, p2⟩ := h.pp
  exact ⟨k _ _ (fun _ xs z => nomatch z) h.ob, ⟨vs, hS _ h1, dat_all k p1⟩, ⟨ws, hP _ h2, pipe_all k.tups p2⟩, h.ne, al, h.mS, h.mP⟩
theorem al_same {A : List Addr} {H H' : Hp} (h : ∀ a ∈ A, H a ≠ none) (s : Same H H') : ∀ a ∈ A, H' a ≠ none := fun a ha e => by
  cases e' : H a with
  | none => exact h a ha e'
  | some o => rw [s _ _ e'] at e; cases e
theorem MdA.same {A : List Addr} {H H' : Hp} {m S Pp : Addr} {ts : List Stn} {ps : List Pipe} (h : MdA A H m S Pp ts ps) (s : Same H H') : MdA A H' m S Pp ts ps := h.kl (KL.of s) (fun _ e => s _ _ e) (fun _ e => s _ _ e) (al_same h.al s)
theorem MdA.sub {A B : List Addr} {H : Hp} {m S Pp : Addr} {ts : List Stn} {ps : List Pipe} (h : MdA A H m S Pp ts ps) (hs : ∀ x ∈ B, x ∈ A) (mS : S ∈ B) (mP : Pp ∈ B) : MdA B H m S Pp ts ps := by
  obtain ⟨vs, h1, p1⟩ := h.st
  exact ⟨h.ob, ⟨vs, h1, dat_sub hs p1⟩, h.pp, h.ne, fun a ha => h.al a (hs a ha), mS, mP⟩
theorem told_add {A : List Addr} {H : Hp} {p : Addr} (hp : H p = none) : ∀ {vs : List V} {ss : List Sg}, Paired (ToldX A H) vs ss → Paired (ToldX (p :: A) H) vs ss
  | _, _, .nil => .nil
  | _, _, .cons ⟨a, q, ws, e, h1, n, h2, r⟩ t => .cons ⟨a, q, ws, e, h1, (fun z => by
      rcases List.mem_cons.mp z with z | z
      · rw [z, hp] at h2; cases h2
      · exact n z), h2, r⟩ (told_add hp t)
theorem DatA.add {A : List Addr} {H : Hp} {p : Addr} (hp : H p = none) {v : V} {t : Stn} (h : DatA A H v t) : DatA (p :: A) H v t := by
  obtain ⟨a, L, ws, e, h1, n, h2, r⟩ := h
  refine ⟨a, L, ws, e, h1, fun z => ?_, h2, told_add hp r⟩
  rcases List.mem_cons.mp z with z | z
  · rw [z, hp] at h2; cases h2
  · exact n z
theorem dat_add {A : List Addr} {H : Hp} {p : Addr} (hp : H p = none) : ∀ {vs : List V} {ts : List Stn}, Paired (DatA A H) vs ts → Paired (DatA (p :: A) H) vs ts
  | _, _, .nil => .nil
  | _, _, .cons r q => .cons (r.add hp) (dat_add hp q)
/-- a new object beside it -/
theorem MdA.new {A : List Addr} {H : Hp} {m S Pp p : Addr} {ts : List Stn} {ps : List Pipe} (h : MdA A H m S Pp ts ps) (hp : H p = none) (o : HO) : MdA (p :: A) (upd H p o) m S Pp ts ps := by
  obtain ⟨vs, h1, p1⟩ := h.st
  obtain ⟨ws, h2, p2⟩ := h.pp
  have k := same_new hp o
  refine ⟨k _ _ h.ob, ⟨vs, k _ _ h1, dat_all (KL.of k) (dat_add hp p1)⟩, ⟨ws, k _ _ h2, pipe_all (Tups.of k) p2⟩, h.ne, fun a ha => ?_, List.mem_cons_of_mem _ h.mS, List.mem_cons_of_mem _ h.mP⟩
  rcases List.mem_cons.mp ha with rfl | ha
  · rw [upd_same]; simp
  · exact al_same h.al k a ha
theorem MdA.neS {A : List Addr} {H : Hp} {m S Pp p : Addr} {ts : List Stn} {ps : List Pipe} (h : MdA A H m S Pp ts ps) (hp : H p = none) : p ≠ S ∧ p ≠ Pp := by
  obtain ⟨vs, h1, p1⟩ := h.st
  obtain ⟨ws, h2, p2⟩ := h.pp
  exact ⟨fun z => (by rw [z, h1] at hp; cases hp), fun z => (by rw [z, h2] at hp; cases hp)⟩
theorem Fr.kl {A : List Addr} {H H' : Hp} {m S Pp : Addr} {ts : List Stn} {ps : List Pipe} (f : Fr S Pp H H') (h : MdA A H m S Pp ts ps) : KL A H H' := fun b o n e => by
  obtain ⟨vs, h1, p1⟩ := h.st
  obtain ⟨ws, h2, p2⟩ := h.pp
  exact f b o (fun z => by rw [z] at e n; rw [h1] at e; exact n h.mS _ (Option.some.inj e).symm) (fun z => by rw [z] at e n; rw [h2] at e; exact n h.mP _ (Option.some.inj e).symm) e
theorem Fr3.kl {A : List Addr} {H H' : Hp} {m S Pp Ll : Addr} {lv : List V} {ts : List Stn} {ps : List Pipe} (f : Fr3 S Pp Ll H H') (h : MdA A H m S Pp ts ps) (hL : H Ll = some (.lst lv)) (mL : Ll ∈ A) : KL A H H' := fun b o n e => by
  obtain ⟨vs, h1, p1⟩ := h.st
  obtain ⟨ws, h2, p2⟩ := h.pp
  exact f b o (fun z => by rw [z] at e n; rw [h1] at e; exact n h.mS _ (Option.some.inj e).symm) (fun z => by rw [z] at e n; rw [h2] at e; exact n h.mP _ (Option.some.inj e).symm) (fun z => by rw [z] at e n; rw [hL] at e; exact n mL _ (Option.some.inj e).symm) e
def spLPut : Sp := fun vs H Q _ => ∃ (A : List Addr) (m S Pp Ll : Addr) (v : V) (t : Stn) (ts : List Stn) (ps : List Pipe) (lv : List V) (ls : List Ln), vs = [.ref m, v, .ref Ll] ∧ MdA A H m S Pp ts ps ∧ DatA A H v t ∧ H Ll = some (.lst lv) ∧ Paired (LnA H) lv ls ∧ Ll ≠ S ∧ Ll ≠ Pp ∧ ts.length ≤ 1000 ∧ ps.length ≤ 1000 ∧ ls.length ≤ 1000 ∧
  ∀ H' p, Fr S Pp H H' → MdA A H' m S Pp (ts ++ [t]) (ps ++ pipesOf ts.length 0 ls) → H' p = some (.tup [.int ts.length, .int 0]) → Q (.ref p) H'
section
variable {P : Program} {w : World} {K : PySem.W.Frag} {mg : Str → Option Value} {base : Heap} {aS a1 a2 aL aT : Addr} {f : Addr} {fd : FuncData} {C CD CY : Addr} {mc : Value}
abbrev s_law_put : Stmt := top 73
abbrev N_law_put : List Str := ["_law_made", "_law_station_here", "_law_lines", "_law_number", "_law_at", "_law_line"]
theorem sc_law_put : FnScope N_law_put ["_law_made", "_law_station_here", "_law_lines"] (defScope s_law_put) := ⟨rfl, rfl, rfl, by decide +kernel, rfl, by decide +kernel, by decide +kernel⟩
theorem ok_law_put (F : Fun K "_law_put" "_law_put" s_law_put f fd) (T : Txt K mg aS a1 a2) : FnOk P w K mg base CX0 1 f fd ["_law_made", "_law_station_here", "_law_lines"] spLPut := by
  refine F.ok sc_law_put (fun vs H Q E h => ?_) (fun cdv A outer s H vs Q E hr h => ?_)
  · obtain ⟨A, m, S, Pp, Ll, v, t, ts, ps, lv, ls, rfl, _⟩ := h
    rfl
  obtain ⟨A', m, S, Pp, Ll, v, t, ts, ps, lv, ls, rfl, md, hv, hL, prL, nLS, nLP, m1, m2, m3, q⟩ := h
  obtain ⟨vs, hS, prS⟩ := md.st
  obtain ⟨ws, hP, prP⟩ := md.pp
  have hne := md.ne
  have lS := paired_len prS
  have lP := paired_len prP
  have lL := paired_len prL
  refine ⟨_, (pss_cons (ps_set (i := 3) sc_law_put.nd rfl (Or.inl rfl) (pe_callB (kLen K rfl) rfl T.b_len bt_len (pa_cons (pe_dget (hu1 hr) (pv 0) pe_str (fun _ _ => rfl)) pa_nil)))
        (pss_cons (ps_expr (kBm K rfl PySem.F.plainAttrs_list PySem.F.slot_list_append PySem.F.type_list_append mt_append (pe_dget (hu1 hr) (pv 0) pe_str (fun _ _ => rfl)) (pa_cons (pv 1) pa_nil)))
        (pss_cons (ps_for PassesOwn.never rfl (kEnum K rfl rfl T.b_enumerate (pa_cons (pv 2) pa_nil)) (kTupG (n := 2) K rfl rfl (pgs_cons (pg_name (i := 4) sc_law_put.nd rfl (Or.inl rfl)) (pgs_cons (pg_name (i := 5) sc_law_put.nd rfl (Or.inl rfl)) pgs_nil)))
        (pss_one (ps_if (pt_cmp (pc_notN (pv 5)))
        (pss_one (ps_expr (kBm K rfl PySem.F.plainAttrs_list PySem.F.slot_list_append PySem.F.type_list_append mt_append (pe_dget (hu1 hr) (pv 0) pe_str (fun _ _ => rfl)) (pa_cons (pe_tup (pa_cons (pe_ix (kIxT K rfl) (pv 5) pe_int (fun _ _ => rfl)) (pa_cons (pe_ix (kIxT K rfl) (pv 5) pe_int (fun _ _ => rfl)) (pa_cons (pv 3) (pa_cons (pv 4) pa_nil))))) pa_nil))))
        pss_nil)))
        (pss_one (ps_ret (pe_tup (pa_cons (pv 3) (pa_cons pe_int pa_nil)))))))), ?_⟩
  refine ⟨_, rfl, m, .ref S, rfl, md.gS, _, _, rfl, .inl (SqL.of hS), ?_⟩
  rw [lS]
  refine ⟨_, rfl, m, .ref S, rfl, md.gS, .inl ⟨rfl, _, SqL.of hS⟩, _, rfl, S, vs, v, rfl, rfl, hS, ?_, ?_⟩
  · exact Nat.lt_of_lt_of_le (show vs.length < 100000 by omega) (by decide)
  refine ⟨_, rfl, Ll, _, rfl, SqL.of ((upd_ne nLS).trans hL), for_it (walk_enum (xs := lv)) (fun i σ H' => ∃ (z4 z5 : Option V) (wx : List V), σ = [some (.ref m), some v, some (.ref Ll), some (.int ts.length), z4, z5] ∧ Fr S Pp H H' ∧ H' S = some (.lst (vs ++ [v])) ∧ H' Pp = some (.lst (ws ++ wx)) ∧ Paired (PipeA H') wx (pipesOf ts.length 0 (ls.take i)) ∧ wx.length ≤ i) ?h0 ?hG ?hs ?hd⟩
  case h0 => exact ⟨_, _, [], rfl, fun b o h1 h2 e => by rw [upd_ne h1]; exact e, upd_same, by rw [upd_ne (Ne.symm hne), List.append_nil]; exact hP, by simp [pipesOf]; exact .nil, Nat.le_refl _⟩
  case hG => exact fun i σ H' _ ⟨_, _, _, _, k, _⟩ => SqL.of (k _ _ nLS nLP hL)
  case hs =>
    rintro i x σ H1 H2 hi ⟨z4, z5, wx, rfl, kp, hS1, hP1, pw, hwx⟩ ⟨T0, p1, p2, rfl, hT0, rfl, hp1, hp2⟩
    obtain ⟨l, hl, hx⟩ := paired_get prL hp2
    have hil := lt_len hl
    obtain rfl : V.int (i : Nat) = p1 := by simpa using hp1
    have k0 := same_new hT0 (.tup [.int (i : Nat), p2])
    have tkp : Tups H H1 := (kp.kl md).tups
    have hx1 := (hx.keep tkp).keep (Tups.of k0)
    have ob1 : upd H1 T0 (.tup [.int (i : Nat), p2]) m = some (.dK (mdK S Pp)) := k0 _ _ ((kp.kl md) _ _ (fun _ xs z => nomatch z) md.ob)
    have gP1 : DGet (upd H1 T0 (.tup [.int (i : Nat), p2])) m (.str "pipes") (some (.ref Pp)) := .inl ⟨_, .inr "pipes", .inl ob1, rfl, (mdP S Pp).symm⟩
    refine ⟨_, _, rfl, SqT.of upd_same, rfl, _, _, rfl, _, _, rfl, rfl, ?_⟩
    have ptk : pipesOf ts.length 0 (ls.take (i + 1)) = pipesOf ts.length 0 (ls.take i) ++ pipesOf ts.length i [l] := by
      rw [List.take_succ, hl]
      show pipesOf ts.length 0 (ls.take i ++ [l]) = _
      rw [pipesOf_app, List.length_take, Nat.zero_add, Nat.min_eq_left (by omega)]
    cases l with
    | none =>
      obtain rfl : p2 = .non := hx1
      refine ⟨_, rfl, _, rfl, iteFd (by decide +kernel) ?_⟩
      refine ⟨_, _, wx, rfl, fun b o h1 h2 e => k0 _ _ (kp b o h1 h2 e), k0 _ _ hS1, k0 _ _ hP1, ?_, by omega⟩
      rw [ptk]
      simp only [pipesOf, List.append_nil]
      exact pipe_all (Tups.of k0) pw
    | some l =>
      obtain ⟨tt, rfl, htt⟩ := hx1
      refine ⟨_, rfl, _, rfl, iteTd (by simp) ?_⟩
      have hP2 := k0 _ _ hP1
      refine ⟨_, rfl, m, .ref Pp, rfl, gP1, .inl ⟨rfl, _, SqL.of hP2⟩, _, rfl, _, _, _, _, rfl, rfl, SqT.of htt, rfl, _, rfl, _, _, _, _, rfl, rfl, SqT.of htt, rfl, _, rfl, _, rfl, sz rfl, fun T1 hT1 => ?_⟩
      have k1 := same_new hT1 (.tup [.int l.1, .int l.2, .int ts.length, .int (i : Nat)])
      have hP3 := k1 _ _ hP2
      refine ⟨Pp, _, _, rfl, rfl, hP3, ?_, ?_⟩
      · exact Nat.lt_of_lt_of_le (show (ws ++ wx).length < 100000 by rw [List.length_append]; omega) (by decide)
      have kk : Tups H1 _ := (Tups.of (k0.trans' k1)).trans (tups_at (o := .lst ((ws ++ wx) ++ [.ref T1])) hP3)
      refine ⟨_, _, wx ++ [.ref T1], rfl, fun b o h1 h2 e => ?_, ?_, ?_, ?_, ?_⟩
      · rw [upd_ne h2]; exact k1 _ _ (k0 _ _ (kp b o h1 h2 e))
      · rw [upd_ne hne]; exact k1 _ _ (k0 _ _ hS1)
      · rw [upd_same, List.append_assoc]
      · rw [ptk]
        exact paired_app (pipe_all kk pw) (.cons ⟨T1, rfl, tups_at hP3 _ _ upd_same⟩ .nil)
      · rw [List.length_append]
        show wx.length + 1 ≤ i + 1
        omega
  case hd =>
    rintro σ H1 ⟨z4, z5, wx, rfl, kp, hS1, hP1, pw, hwx⟩
    rw [lL, List.take_of_length_le (Nat.le_refl _)] at pw
    have kl := kp.kl md
    refine ⟨_, rfl, sz rfl, fun p hp => ?_⟩
    have k := same_new hp (.tup [.int ts.length, .int 0])
    have al1 : ∀ a ∈ A', H1 a ≠ none := fun a ha e => by
      by_cases h1 : a = S
      · rw [h1, hS1] at e; cases e
      by_cases h2 : a = Pp
      · rw [h2, hP1] at e; cases e
      cases e' : H a with
      | none => exact md.al a ha e'
      | some o => rw [kp _ _ h1 h2 e'] at e; cases e
    have md1 : MdA A' H1 m S Pp (ts ++ [t]) (ps ++ pipesOf ts.length 0 ls) := ⟨kl _ _ (fun _ xs z => nomatch z) md.ob, ⟨_, hS1, paired_app (dat_all kl prS) (.cons (hv.kl kl) .nil)⟩, ⟨_, hP1, paired_app (pipe_all kl.tups prP) pw⟩, hne, al1, md.mS, md.mP⟩
    exact q _ p (kp.trans (Fr.of k)) (md1.same k) upd_same
end
end FY


set_option Elab.async false
set_option linter.all false
set_option maxRecDepth 100000
set_option maxHeartbeats 4000000
namespace FY
open PySem L2 FYR
def spLNode (n : Nat) : Sp := fun vs H Q _ => ∃ (A : List Addr) (m S Pp Ll : Addr) (v : V) (t : Tm) (ts : List Stn) (ps : List Pipe) (lv : List V) (ls : List Ln), vs = [.ref m, v, .ref Ll] ∧ MdA A H m S Pp ts ps ∧ Ll ∈ A ∧ TA H v t ∧ t.nodes ≤ n ∧ t.nodes ≤ 40 ∧ H Ll = some (.lst lv) ∧ Paired (LnA H) lv ls ∧ Ll ≠ S ∧ Ll ≠ Pp ∧ outerN t ≤ ls.length ∧ ts.length + t.nodes ≤ 400 + outerN t ∧ ps.length ≤ 2 * ts.length ∧
  ∀ H' v' lv', Fr3 S Pp Ll H H' → MdA A H' m S Pp (partS t ls (ts, ps)).2.2.1 (partS t ls (ts, ps)).2.2.2 → LnA H' v' (partS t ls (ts, ps)).1 → H' Ll = some (.lst lv') → Paired (LnA H') lv' (partS t ls (ts, ps)).2.1 → Q v' H'
def spLBuilt (n : Nat) : Sp := fun vs H Q _ => ∃ (A : List Addr) (m S Pp : Addr) (v x : V) (t : Tm) (l : Ln) (ts : List Stn) (ps : List Pipe), vs = [.ref m, v, x] ∧ MdA A H m S Pp ts ps ∧ TA H v t ∧ t.nodes ≤ n ∧ t.nodes ≤ 40 ∧ LnA H x l ∧ ts.length + t.nodes ≤ 401 ∧ ps.length ≤ 2 * ts.length ∧
  ∀ H' v', Fr S Pp H H' → MdA A H' m S Pp (wholeS t l (ts, ps)).2.1 (wholeS t l (ts, ps)).2.2 → LnA H' v' (wholeS t l (ts, ps)).1 → Q v' H'
section
variable {P : Program} {w : World} {K : PySem.W.Frag} {mg : Str → Option Value} {base : Heap} {aS a1 a2 aL aT : Addr} {f g : Addr} {fd gd : FuncData} {C CD CY : Addr} {mc : Value}
abbrev s_law_built : Stmt := top 75
abbrev N_law_built : List Str := ["_law_made", "_law_term_here", "_law_line", "_law_lines", "_law_copy", "_law_turn", "_law_number"]
theorem sc_law_built : FnScope N_law_built ["_law_made", "_law_term_here", "_law_line"] (defScope s_law_built) := ⟨rfl, rfl, rfl, by decide +kernel, rfl, by decide +kernel, by decide +kernel⟩
theorem step_built {n : Nat} (F : Fun K "_law_built" "_law_built" s_law_built f fd) (T : Txt K mg aS a1 a2) (c__law_outer : C8.Cal P w K mg base n "_law_outer" (spOuter n) []) (c__law_put : C8.Cal P w K mg base 1 "_law_put" spLPut []) (c__law_node : C8.Cal P w K mg base (2 * n + 10) "_law_node" (spLNode n) []) : FnOk P w K mg base CX0 (2 * n + 11) f fd ["_law_made", "_law_term_here", "_law_line"] (spLBuilt n) := by
  refine F.ok sc_law_built (fun vs H Q E h => ?_) (fun cdv A outer s H vs Q E hr h => ?_)
  · obtain ⟨A, m, S, Pp, v, x, t, l, ts, ps, rfl, _⟩ := h
    rfl
  obtain ⟨A0, m, S, Pp, v, x, t, l, ts, ps, rfl, md, ta, tn, t40, hx, m1, m2, q⟩ := h
  refine ⟨_, (pss_cons (ps_par (i := 3) (j := 4) rfl sc_law_built.nd rfl rfl (by decide) rfl rfl (pa_cons (pe_lst pa_nil) (pa_cons (pe_tup (pa_cons pe_int (pa_cons pe_int (pa_cons (pe_lst (pa_cons (pe_tup (pa_cons pe_str (pa_cons (pe_lst (pa_cons (pe_tup (pa_cons (pe_tup (pa_cons pe_str (pa_cons pe_str pa_nil))) (pa_cons pe_int (pa_cons pe_int pa_nil)))) (pa_cons (pe_tup (pa_cons (pe_tup (pa_cons pe_str (pa_cons pe_str pa_nil))) (pa_cons pe_int (pa_cons pe_int pa_nil)))) pa_nil))) pa_nil))) pa_nil)) pa_nil)))) pa_nil)) rfl)
        (pss_cons (ps_for PassesOwn.never rfl (pi_range1 rfl T.b_range (pa_cons (pe_op op_sub (C8.pe_c c__law_outer hr (by omega) rfl (pa_cons (pv 1) pa_nil)) pe_int) pa_nil)) (pg_name (i := 5) sc_law_built.nd rfl (Or.inl rfl))
        (pss_cons (ps_set (i := 6) sc_law_built.nd rfl (Or.inl rfl) (pe_ix (kIxT K rfl) (C8.pe_c c__law_put hr (by omega) rfl (pa_cons (pv 0) (pa_cons (pv 4) (pa_cons (pe_lst (pa_cons (pv 2) pa_nil)) pa_nil)))) pe_int (fun _ _ => rfl)))
        (pss_cons (ps_expr (kBm K rfl PySem.F.plainAttrs_list PySem.F.slot_list_append PySem.F.type_list_append mt_append (pv 3) (pa_cons (pe_tup (pa_cons (pv 6) (pa_cons pe_int pa_nil))) pa_nil)))
        (pss_one (ps_set (i := 2) sc_law_built.nd rfl (Or.inl rfl) (pe_tup (pa_cons (pv 6) (pa_cons pe_int pa_nil))))))))
        (pss_one (ps_ret (C8.pe_c c__law_node hr (by omega) rfl (pa_cons (pv 0) (pa_cons (pv 1) (pa_cons (pe_op op_cat (pv 3) (pe_lst (pa_cons (pv 2) pa_nil))) pa_nil)))))))), ?_⟩
  have op := outer_pos t
  have ol := outer_le t
  refine ⟨Nat.zero_le _, fun F0 hF0 => ?_⟩
  have s0 := same_new hF0 (.lst [])
  have md0 := md.new hF0 (.lst [])
  obtain ⟨nFS, nFP⟩ := md.neS hF0
  obtain ⟨H1, hH1⟩ : ∃ H1, H1 = upd H F0 (.lst []) := ⟨_, rfl⟩
  have hF1 : H1 F0 = some (.lst []) := by rw [hH1, upd_same]
  rw [← hH1] at md0 s0 ⊢
  clear hH1
  refine (dis_stat (A := F0 :: A0) 1 2 (dis_stgs md0.al (by decide) (dis_cons (to_mon (F0 :: A0) _) (dis_told .one rd1 (dis_rows md0.al (by decide) (dis_cons (rw_mon _) (dis_cp false z0) (dis_cons (rw_mon _) (dis_cp true z1) dis_nil)))) dis_nil))) H1 _ (Same.refl _) fun H2 v2 s2 dat2 => ?_
  have dat2 : DatA (F0 :: A0) H2 v2 copySt := dat2
  have md2 := md0.same s2
  have s02 := s0.trans' s2
  refine ⟨_, _, rfl, ?_⟩
  refine ⟨_, rfl, v, t, rfl, ta.keep (Tups.of s02), tn, t40, fun H3 s3 => ?_⟩
  have s03 := s02.trans' s3
  have ek : ((outerN t : Int) - 1).toNat = outerN t - 1 := by omega
  refine ⟨_, _, rfl, rfl, _, rfl, ?_, ?_, for_it walk_range0 (fun i σ H' => ∃ (lv : V) (z5 z6 : Option V) (fv : List V), σ = [some (.ref m), some v, some lv, some (.ref F0), some v2, z5, z6] ∧ KL (F0 :: A0) H3 H' ∧ (∀ b o, b ≠ S → b ≠ Pp → b ≠ F0 → H3 b = some o → H' b = some o) ∧ H' F0 = some (.lst fv) ∧ Paired (LnA H') fv (copS i (ts, ps) l).2.1 ∧ LnA H' lv (copS i (ts, ps) l).2.2 ∧ MdA (F0 :: A0) H' m S Pp (copS i (ts, ps) l).1.1 (copS i (ts, ps) l).1.2) ?h0 ?hG ?hs ?hd⟩
  · omega
  · omega
  case h0 => exact ⟨x, _, _, [], rfl, KL.of (Same.refl _), fun b o _ _ _ e => e, s3 _ _ (s2 _ _ hF1), .nil, hx.keep (Tups.of s03), md2.same s3⟩
  case hG => exact fun _ _ _ _ _ => trivial
  case hs =>
    rintro i x' σ H4 H5 hi ⟨lv, z5, z6, fv, rfl, kl, fr, hF4, pf, hlv, md4⟩ ⟨rfl, rfl⟩
    rw [ek] at hi
    obtain ⟨c1, c2, c3⟩ := copS_len i (ts, ps) l
    simp only at c1 c2
    have lf := paired_len pf
    refine ⟨_, rfl, _, rfl, _, rfl, sz rfl, fun L2 hL2 => ?_⟩
    have k6 := same_new hL2 (.lst [lv])
    obtain ⟨n1, n2⟩ := md4.neS hL2
    refine ⟨F0 :: A0, m, S, Pp, L2, v2, copySt, _, _, [lv], [_], rfl, md4.same k6, ((dat2.kl (KL.of s3)).kl kl).kl (KL.of k6), upd_same, .cons (hlv.keep (Tups.of k6)) .nil, n1, n2, by omega, by omega, (by decide : 1 ≤ 1000), fun H7 p7 f7 md7 hp7 => ?_⟩
    have f47 : Fr S Pp H5 H7 := (Fr.of k6).trans f7
    have kl47 := f47.kl md4
    have hF7 : H7 F0 = some (.lst fv) := f47 _ _ nFS nFP hF4
    refine ⟨_, _, _, _, rfl, rfl, SqT.of hp7, rfl, ?_⟩
    refine ⟨_, rfl, .inl ⟨rfl, _, SqL.of hF7⟩, _, rfl, sz rfl, fun t1 ht1 => ?_⟩
    have k8 := same_new ht1 (.tup [.int (copS i (ts, ps) l).1.1.length, .int 0])
    have hF8 := k8 _ _ hF7
    refine ⟨F0, fv, .ref t1, rfl, rfl, hF8, ?_, ?_⟩
    · exact Nat.lt_of_lt_of_le (show fv.length < 100000 by omega) (by decide)
    refine ⟨_, rfl, sz rfl, fun t2 ht2 => ?_⟩
    obtain ⟨H8, hH8⟩ : ∃ H8, H8 = upd (upd H7 t1 (.tup [.int (copS i (ts, ps) l).1.1.length, .int 0])) F0 (.lst (fv ++ [.ref t1])) := ⟨_, rfl⟩
    have kl8 : KL (F0 :: A0) H7 H8 := by rw [hH8]; exact (KL.of k8).trans (KL.at hF8 (by simp))
    have fr8 : ∀ b o, b ≠ F0 → H7 b = some o → H8 b = some o := fun b o hb e => by rw [hH8, upd_ne hb]; exact k8 _ _ e
    have hF9 : H8 F0 = some (.lst (fv ++ [.ref t1])) := by rw [hH8, upd_same]
    have ht1' : H8 t1 = some (.tup [.int (copS i (ts, ps) l).1.1.length, .int 0]) := by
      rw [hH8, upd_ne (fun z => by rw [z, hF7] at ht1; cases ht1), upd_same]
    rw [← hH8] at ht2 ⊢
    clear hH8
    have k9 := same_new ht2 (.tup [.int (copS i (ts, ps) l).1.1.length, .int 1])
    have al8 : ∀ a ∈ F0 :: A0, H8 a ≠ none := fun a ha e => by
      by_cases h1 : a = F0
      · rw [h1, hF9] at e; cases e
      · cases e' : H7 a with
        | none => exact md7.al a ha e'
        | some o => rw [fr8 _ _ h1 e'] at e; cases e
    have md9 : MdA (F0 :: A0) H8 m S Pp _ _ := md7.kl kl8 (fun xs e => fr8 _ _ (Ne.symm nFS) e) (fun xs e => fr8 _ _ (Ne.symm nFP) e) al8
    refine ⟨.ref t2, _, _, fv ++ [.ref t1], rfl, ((kl.trans kl47).trans kl8).trans (KL.of k9), fun b o h1 h2 h3 e => ?_, k9 _ _ hF9, ?_, ⟨t2, rfl, upd_same⟩, md9.same k9⟩
    · exact k9 _ _ (fr8 b o h3 (f47 b o h1 h2 (fr b o h1 h2 h3 e)))
    · exact paired_app (lna_all ((kl47.trans kl8).tups.trans (Tups.of k9)) pf) (.cons ⟨t1, rfl, k9 _ _ ht1'⟩ .nil)
  case hd =>
    rintro σ H4 ⟨lv, z5, z6, fv, rfl, kl, fr, hF4, pf, hlv, md4⟩
    rw [ek] at pf hlv md4
    obtain ⟨c1, c2, c3⟩ := copS_len (outerN t - 1) (ts, ps) l
    simp only at c1 c2
    have lf := paired_len pf
    refine ⟨_, rfl, _, rfl, _, rfl, _, rfl, sz rfl, fun L hL => ?_⟩
    have k1 := same_new hL (.lst [lv])
    refine ⟨F0, L, fv, [lv], rfl, rfl, k1 _ _ hF4, upd_same, ?_, fun p hp => ?_⟩
    · exact Nat.le_trans (show fv.length + 1 ≤ 100000 by omega) (by decide)
    have k2 := same_new hp (.lst (fv ++ [lv]))
    have k12 := k1.trans' k2
    have md5 := (md4.same k1).new hp (.lst (fv ++ [lv]))
    obtain ⟨np1, np2⟩ := (md4.same k1).neS hp
    refine ⟨p :: F0 :: A0, m, S, Pp, p, v, t, _, _, fv ++ [lv], copL (outerN t - 1) (ts, ps) l, rfl, md5, by simp, ((ta.keep (Tups.of s03)).keep kl.tups).keep (Tups.of k12), tn, t40, upd_same, paired_app (lna_all (Tups.of k12) pf) (.cons (hlv.keep (Tups.of k12)) .nil), np1, np2, ?_, ?_, ?_, fun H6 v6 lv6 f6 md6 hv6 _ _ => ?_⟩
    · simp only [copL, List.length_append, c3, List.length_cons, List.length_nil]
      omega
    · rw [c1]
      omega
    · rw [c1]
      omega
    · refine q _ _ (fun b o h1 h2 e => ?_) (md6.sub (fun z hz => List.mem_cons_of_mem _ (List.mem_cons_of_mem _ hz)) md.mS md.mP) hv6
      have e4 := k1 _ _ (fr b o h1 h2 (ne_of_none e hF0) (s03 _ _ e))
      exact f6 b o h1 h2 (ne_of_none e4 hp) (k2 _ _ e4)
abbrev s_law_node : Stmt := top 74
abbrev N_law_node : List Str := ["_law_made", "_law_term_here", "_law_lines", "_law_one"]
theorem sc_law_node : FnScope N_law_node ["_law_made", "_law_term_here", "_law_lines"] (defScope s_law_node) := ⟨rfl, rfl, rfl, by decide +kernel, rfl, by decide +kernel, by decide +kernel⟩
theorem step_node {n : Nat} (F : Fun K "_law_node" "_law_node" s_law_node f fd) (T : Txt K mg aS a1 a2) (c__law_station : C8.Cal P w K mg base 1 "_law_station" spLSt []) (c__law_put : C8.Cal P w K mg base 1 "_law_put" spLPut []) (c__law_node : C8.Cal P w K mg base (2 * n + 10) "_law_node" (spLNode n) []) (c__law_built : C8.Cal P w K mg base (2 * n + 11) "_law_built" (spLBuilt n) []) : FnOk P w K mg base CX0 (2 * n + 12) f fd ["_law_made", "_law_term_here", "_law_lines"] (spLNode (n + 1)) := by
  refine F.ok sc_law_node (fun vs H Q E h => ?_) (fun cdv A outer s H vs Q E hr h => ?_)
  · obtain ⟨A, m, S, Pp, Ll, v, t, ts, ps, lv, ls, rfl, _⟩ := h
    rfl
  obtain ⟨A0, m, S, Pp, Ll, v, t, ts, ps, lv, ls, rfl, md, mL, ta, tn, t40, hL, pl, nLS, nLP, ho, m1, m2, q⟩ := h
  refine ⟨_, (pss_cons (ps_if (pt_cmpR (kEqD K rfl hr.units) (pv 1) pe_str (nomark _))
        (pss_one (ps_ret (kBm K rfl PySem.F.plainAttrs_list PySem.F.slot_list_pop PySem.F.type_list_pop mt_popAt (pv 2) (pa_cons pe_int pa_nil))))
        pss_nil)
        (pss_cons (ps_if (pt_cmpR op_eq (pe_ix (kIxT K rfl) (pv 1) pe_int (fun _ _ => rfl)) pe_str (nomark _))
        (pss_one (ps_ret (C8.pe_c c__law_built hr (by omega) rfl (pa_cons (pv 0) (pa_cons (pe_ix (kIxT K rfl) (pv 1) pe_int (fun _ _ => rfl)) (pa_cons (C8.pe_c c__law_node hr (by omega) rfl (pa_cons (pv 0) (pa_cons (pe_ix (kIxT K rfl) (pv 1) pe_int (fun _ _ => rfl)) (pa_cons (pv 2) pa_nil)))) pa_nil))))))
        pss_nil)
        (pss_cons (ps_if (pt_cmpR (kIn K rfl) (pe_ix (kIxT K rfl) (pv 1) pe_int (fun _ _ => rfl)) (pe_tup (pa_cons pe_str (pa_cons pe_str pa_nil))) rfl)
        (pss_cons (ps_set (i := 3) sc_law_node.nd rfl (Or.inl rfl) (C8.pe_c c__law_node hr (by omega) rfl (pa_cons (pv 0) (pa_cons (pe_ix (kIxT K rfl) (pv 1) (pe_un un_neg pe_int) (fun _ _ => rfl)) (pa_cons (pv 2) pa_nil)))))
        (pss_one (ps_ret (C8.pe_c c__law_put hr (by omega) rfl (pa_cons (pv 0) (pa_cons (C8.pe_c c__law_station hr (by omega) rfl (pa_cons (pv 1) pa_nil)) (pa_cons (pe_lst (pa_cons (pv 3) (pa_cons (C8.pe_c c__law_node hr (by omega) rfl (pa_cons (pv 0) (pa_cons (pe_ix (kIxT K rfl) (pv 1) (pe_un un_neg pe_int) (fun _ _ => rfl)) (pa_cons (pv 2) pa_nil)))) pa_nil))) pa_nil)))))))
        pss_nil)
        (pss_one (ps_ret (C8.pe_c c__law_put hr (by omega) rfl (pa_cons (pv 0) (pa_cons (C8.pe_c c__law_station hr (by omega) rfl (pa_cons (pv 1) pa_nil)) (pa_cons (pe_lst (pa_cons (C8.pe_c c__law_node hr (by omega) rfl (pa_cons (pv 0) (pa_cons (pe_ix (kIxT K rfl) (pv 1) (pe_un un_neg pe_int) (fun _ _ => rfl)) (pa_cons (pv 2) pa_nil)))) pa_nil)) pa_nil))))))))), ?_⟩
  refine ⟨_, rfl, _, _, ta.dp, .str _, shp_tm t40, shp_in, _, rfl, ?_⟩
  rw [eqv_in]
  cases t with
  | inn =>
    refine iteT ⟨_, rfl, .inl ⟨rfl, _, SqL.of hL⟩, ?_⟩
    cases pl with
    | nil => simp [outerN] at ho
    | @cons x1 l1 xr lr r1 rr =>
      refine ⟨Ll, _, 0, 0, x1, rfl, rfl, hL, by decide, by decide, seq0 _, rfl, ?_⟩
      have kl := KL.at (A := A0) (o := .lst (x1 :: xr).tail) hL mL
      refine q _ _ xr (fun b o _ _ h3 e => by rw [upd_ne h3]; exact e) (md.kl kl (fun xs e => by rw [upd_ne (Ne.symm nLS)]; exact e) (fun xs e => by rw [upd_ne (Ne.symm nLP)]; exact e) (fun a ha e => ?_)) (r1.keep kl.tups) upd_same (lna_all kl.tups rr)
      by_cases h1 : a = Ll
      · rw [h1, upd_same] at e; cases e
      · rw [upd_ne h1] at e; exact md.al a ha e
  | thn t u =>
    obtain ⟨a, x, y, rfl, h, r, r'⟩ := ta
    have hnd : (Tm.thn t u).nodes = t.nodes + u.nodes + 1 := rfl
    have hod : outerN (Tm.thn t u) = outerN t := rfl
    have up := u.nodes_pos
    rw [hnd] at tn t40 m1
    rw [hod] at ho m1
    refine iteF ⟨_, rfl, _, _, _, _, rfl, rfl, SqT.of h, rfl, rfl, _, rfl, iteTd (by decide +kernel) ?_⟩
    refine ⟨_, rfl, _, rfl, _, _, _, _, rfl, rfl, SqT.of h, rfl, ?_⟩
    refine ⟨_, rfl, _, rfl, _, _, _, _, rfl, rfl, SqT.of h, rfl, _, rfl, ?_⟩
    obtain ⟨⟨p1, p2, p3⟩, p4⟩ := partS_len t ls (ts, ps)
    simp only at p1 p2 p3
    refine ⟨A0, m, S, Pp, Ll, x, t, ts, ps, lv, ls, rfl, md, mL, r, by omega, by omega, hL, pl, nLS, nLP, ho, by omega, m2, fun H1 v1 lv1 f1 md1 hv1 hL1 pl1 => ?_⟩
    have kl1 := f1.kl md hL mL
    refine ⟨A0, m, S, Pp, y, v1, u, _, _, _, rfl, md1, r'.keep kl1.tups, by omega, by omega, hv1, by omega, by omega, fun H2 v2 f2 md2 hv2 => ?_⟩
    have kl2 := f2.kl md1
    rw [partS_thn] at q
    exact q _ _ lv1 (f1.trans (Fr3.of2 f2)) md2 hv2 (f2 _ _ nLS nLP hL1) (lna_all kl2.tups pl1)
  | one w t =>
    obtain ⟨a, x, rfl, h, r⟩ := ta
    have hnd : (Tm.one w t).nodes = t.nodes + 1 := rfl
    have hod : outerN (Tm.one w t) = outerN t := rfl
    rw [hnd] at tn t40 m1
    rw [hod] at ho m1
    refine iteF ⟨_, rfl, _, _, _, _, rfl, rfl, SqT.of h, rfl, rfl, _, rfl, iteFd (by cases w <;> decide +kernel) ?_⟩
    refine ⟨_, rfl, _, _, _, _, rfl, rfl, SqT.of h, rfl, sz rfl, fun p0 hp0 => ⟨_, _, rfl, .inr (SqT.of upd_same), rfl, rfl, _, rfl, iteFd (oIw w) ?_⟩⟩
    have k0 := same_new hp0 (.tup [.str "by", .str "keep"])
    have h0 := k0 _ _ h
    have md0 := md.same k0
    refine ⟨_, rfl, _, rfl, .ref a, .one w t, A0, rfl, ⟨a, x, rfl, h0, r.keep (Tups.of k0)⟩, rfl, rfl, md0.al, fun H1 v1 s1 dat1 => ?_⟩
    have k1 := k0.trans' s1
    obtain ⟨⟨p1, p2, p3⟩, p4⟩ := partS_len t ls (ts, ps)
    simp only at p1 p2 p3
    refine ⟨_, rfl, _, rfl, _, rfl, _, _, _, _, rfl, rfl, SqT.of (k1 _ _ h), rfl, _, rfl, ?_⟩
    refine ⟨A0, m, S, Pp, Ll, x, t, ts, ps, lv, ls, rfl, md.same k1, mL, r.keep (Tups.of k1), by omega, by omega, k1 _ _ hL, lna_all (Tups.of k1) pl, nLS, nLP, ho, by omega, m2, fun H2 v2 lv2 f2 md2 hv2 hL2 pl2 => ?_⟩
    have kl2 := f2.kl (md.same k1) (k1 _ _ hL) mL
    refine ⟨sz rfl, fun L3 hL3 => ?_⟩
    have k3 := same_new hL3 (.lst [v2])
    obtain ⟨n1, n2⟩ := md2.neS hL3
    refine ⟨A0, m, S, Pp, L3, v1, stOf (.one w t), _, _, [v2], [_], rfl, md2.same k3, (dat1.kl kl2).kl (KL.of k3), upd_same, .cons (hv2.keep (Tups.of k3)) .nil, n1, n2, by omega, by omega, (by decide : 1 ≤ 1000), fun H4 p4' f4 md4 hp4 => ?_⟩
    have kl4 := f4.kl (md2.same k3)
    exact q _ _ lv2 ((Fr3.of k1).trans (f2.trans ((Fr3.of k3).trans (Fr3.of2 f4)))) md4 ⟨p4', rfl, hp4⟩ (f4 _ _ nLS nLP (k3 _ _ hL2)) (lna_all ((Tups.of k3).trans kl4.tups) pl2)
  | late b t =>
    obtain ⟨a, x, rfl, h, r⟩ := ta
    have hnd : (Tm.late b t).nodes = t.nodes + 1 := rfl
    have hod : outerN (Tm.late b t) = outerN t := rfl
    rw [hnd] at tn t40 m1
    rw [hod] at ho m1
    refine iteF ⟨_, rfl, _, _, _, _, rfl, rfl, SqT.of h, rfl, rfl, _, rfl, iteFd (by decide +kernel) ?_⟩
    refine ⟨_, rfl, _, _, _, _, rfl, rfl, SqT.of h, rfl, sz rfl, fun p0 hp0 => ⟨_, _, rfl, .inr (SqT.of upd_same), rfl, rfl, _, rfl, iteFd (oIl) ?_⟩⟩
    have k0 := same_new hp0 (.tup [.str "by", .str "keep"])
    have h0 := k0 _ _ h
    have md0 := md.same k0
    refine ⟨_, rfl, _, rfl, .ref a, .late b t, A0, rfl, ⟨a, x, rfl, h0, r.keep (Tups.of k0)⟩, rfl, rfl, md0.al, fun H1 v1 s1 dat1 => ?_⟩
    have k1 := k0.trans' s1
    obtain ⟨⟨p1, p2, p3⟩, p4⟩ := partS_len t ls (ts, ps)
    simp only at p1 p2 p3
    refine ⟨_, rfl, _, rfl, _, rfl, _, _, _, _, rfl, rfl, SqT.of (k1 _ _ h), rfl, _, rfl, ?_⟩
    refine ⟨A0, m, S, Pp, Ll, x, t, ts, ps, lv, ls, rfl, md.same k1, mL, r.keep (Tups.of k1), by omega, by omega, k1 _ _ hL, lna_all (Tups.of k1) pl, nLS, nLP, ho, by omega, m2, fun H2 v2 lv2 f2 md2 hv2 hL2 pl2 => ?_⟩
    have kl2 := f2.kl (md.same k1) (k1 _ _ hL) mL
    refine ⟨sz rfl, fun L3 hL3 => ?_⟩
    have k3 := same_new hL3 (.lst [v2])
    obtain ⟨n1, n2⟩ := md2.neS hL3
    refine ⟨A0, m, S, Pp, L3, v1, stOf (.late b t), _, _, [v2], [_], rfl, md2.same k3, (dat1.kl kl2).kl (KL.of k3), upd_same, .cons (hv2.keep (Tups.of k3)) .nil, n1, n2, by omega, by omega, (by decide : 1 ≤ 1000), fun H4 p4' f4 md4 hp4 => ?_⟩
    have kl4 := f4.kl (md2.same k3)
    exact q _ _ lv2 ((Fr3.of k1).trans (f2.trans ((Fr3.of k3).trans (Fr3.of2 f4)))) md4 ⟨p4', rfl, hp4⟩ (f4 _ _ nLS nLP (k3 _ _ hL2)) (lna_all ((Tups.of k3).trans kl4.tups) pl2)
  | byy b1 b2 b3 b4 t u =>
    obtain ⟨a, x, y, rfl, h, r, r'⟩ := ta
    have hnd : (Tm.byy b1 b2 b3 b4 t u).nodes = t.nodes + u.nodes + 1 := rfl
    have hod : outerN (Tm.byy b1 b2 b3 b4 t u) = outerN t + outerN u := rfl
    have up := u.nodes_pos
    have ol := outer_le u
    rw [hnd] at tn t40 m1
    rw [hod] at ho m1
    refine iteF ⟨_, rfl, _, _, _, _, rfl, rfl, SqT.of h, rfl, rfl, _, rfl, iteFd (by decide +kernel) ?_⟩
    refine ⟨_, rfl, _, _, _, _, rfl, rfl, SqT.of h, rfl, sz rfl, fun p0 hp0 => ⟨_, _, rfl, .inr (SqT.of upd_same), rfl, rfl, _, rfl, iteTd oIb ?_⟩⟩
    have k0 := same_new hp0 (.tup [.str "by", .str "keep"])
    have h0 := k0 _ _ h
    obtain ⟨⟨p1, p2, p3⟩, p4⟩ := partS_len t ls (ts, ps)
    simp only at p1 p2 p3
    refine ⟨_, rfl, _, rfl, _, rfl, _, _, _, _, rfl, rfl, SqT.of h0, rfl, _, rfl, ?_⟩
    refine ⟨A0, m, S, Pp, Ll, x, t, ts, ps, lv, ls, rfl, md.same k0, mL, r.keep (Tups.of k0), by omega, by omega, k0 _ _ hL, lna_all (Tups.of k0) pl, nLS, nLP, by omega, by omega, m2, fun H2 v2 lv2 f2 md2 hv2 hL2 pl2 => ?_⟩
    have kl2 := f2.kl (md.same k0) (k0 _ _ hL) mL
    have h2 := kl2.tups _ _ h0
    refine ⟨_, rfl, _, rfl, .ref a, .byy b1 b2 b3 b4 t u, A0, rfl, ⟨a, x, y, rfl, h2, (r.keep (Tups.of k0)).keep kl2.tups, (r'.keep (Tups.of k0)).keep kl2.tups⟩, rfl, rfl, md2.al, fun H3 v3 s3 dat3 => ?_⟩
    obtain ⟨⟨q1, q2, q3⟩, q4⟩ := partS_len u (partS t ls (ts, ps)).2.1 ((partS t ls (ts, ps)).2.2.1, (partS t ls (ts, ps)).2.2.2)
    simp only at q1 q2 q3
    refine ⟨_, rfl, _, rfl, _, rfl, _, rfl, _, _, _, _, rfl, rfl, SqT.of (s3 _ _ h2), rfl, _, rfl, ?_⟩
    refine ⟨A0, m, S, Pp, Ll, y, u, _, _, lv2, _, rfl, md2.same s3, mL, ((r'.keep (Tups.of k0)).keep kl2.tups).keep (Tups.of s3), by omega, by omega, s3 _ _ hL2, lna_all (Tups.of s3) pl2, nLS, nLP, by rw [p4, List.length_drop]; omega, by omega, by omega, fun H4 v4 lv4 f4 md4 hv4 hL4 pl4 => ?_⟩
    have kl4 := f4.kl (md2.same s3) (s3 _ _ hL2) mL
    refine ⟨sz rfl, fun L5 hL5 => ?_⟩
    have k5 := same_new hL5 (.lst [v2, v4])
    obtain ⟨n1, n2⟩ := md4.neS hL5
    refine ⟨A0, m, S, Pp, L5, v3, stOf (.byy b1 b2 b3 b4 t u), _, _, [v2, v4], [_, _], rfl, md4.same k5, (dat3.kl kl4).kl (KL.of k5), upd_same, .cons (((hv2.keep (Tups.of s3)).keep kl4.tups).keep (Tups.of k5)) (.cons (hv4.keep (Tups.of k5)) .nil), n1, n2, by omega, by omega, (by decide : 2 ≤ 1000), fun H6 p6 f6 md6 hp6 => ?_⟩
    have kl6 := f6.kl (md4.same k5)
    exact q _ _ lv4 ((Fr3.of k0).trans (f2.trans ((Fr3.of s3).trans (f4.trans ((Fr3.of k5).trans (Fr3.of2 f6)))))) md6 ⟨p6, rfl, hp6⟩ (f6 _ _ nLS nLP (k5 _ _ hL4)) (lna_all ((Tups.of k5).trans kl6.tups) pl4)
  | keep t u =>
    obtain ⟨a, x, y, rfl, h, r, r'⟩ := ta
    have hnd : (Tm.keep t u).nodes = t.nodes + u.nodes + 1 := rfl
    have hod : outerN (Tm.keep t u) = outerN t + outerN u := rfl
    have up := u.nodes_pos
    have ol := outer_le u
    rw [hnd] at tn t40 m1
    rw [hod] at ho m1
    refine iteF ⟨_, rfl, _, _, _, _, rfl, rfl, SqT.of h, rfl, rfl, _, rfl, iteFd (by decide +kernel) ?_⟩
    refine ⟨_, rfl, _, _, _, _, rfl, rfl, SqT.of h, rfl, sz rfl, fun p0 hp0 => ⟨_, _, rfl, .inr (SqT.of upd_same), rfl, rfl, _, rfl, iteTd oIk ?_⟩⟩
    have k0 := same_new hp0 (.tup [.str "by", .str "keep"])
    have h0 := k0 _ _ h
    obtain ⟨⟨p1, p2, p3⟩, p4⟩ := partS_len t ls (ts, ps)
    simp only at p1 p2 p3
    refine ⟨_, rfl, _, rfl, _, rfl, _, _, _, _, rfl, rfl, SqT.of h0, rfl, _, rfl, ?_⟩
    refine ⟨A0, m, S, Pp, Ll, x, t, ts, ps, lv, ls, rfl, md.same k0, mL, r.keep (Tups.of k0), by omega, by omega, k0 _ _ hL, lna_all (Tups.of k0) pl, nLS, nLP, by omega, by omega, m2, fun H2 v2 lv2 f2 md2 hv2 hL2 pl2 => ?_⟩
    have kl2 := f2.kl (md.same k0) (k0 _ _ hL) mL
    have h2 := kl2.tups _ _ h0
    refine ⟨_, rfl, _, rfl, .ref a, .keep t u, A0, rfl, ⟨a, x, y, rfl, h2, (r.keep (Tups.of k0)).keep kl2.tups, (r'.keep (Tups.of k0)).keep kl2.tups⟩, rfl, rfl, md2.al, fun H3 v3 s3 dat3 => ?_⟩
    obtain ⟨⟨q1, q2, q3⟩, q4⟩ := partS_len u (partS t ls (ts, ps)).2.1 ((partS t ls (ts, ps)).2.2.1, (partS t ls (ts, ps)).2.2.2)
    simp only at q1 q2 q3
    refine ⟨_, rfl, _, rfl, _, rfl, _, rfl, _, _, _, _, rfl, rfl, SqT.of (s3 _ _ h2), rfl, _, rfl, ?_⟩
    refine ⟨A0, m, S, Pp, Ll, y, u, _, _, lv2, _, rfl, md2.same s3, mL, ((r'.keep (Tups.of k0)).keep kl2.tups).keep (Tups.of s3), by omega, by omega, s3 _ _ hL2, lna_all (Tups.of s3) pl2, nLS, nLP, by rw [p4, List.length_drop]; omega, by omega, by omega, fun H4 v4 lv4 f4 md4 hv4 hL4 pl4 => ?_⟩
    have kl4 := f4.kl (md2.same s3) (s3 _ _ hL2) mL
    refine ⟨sz rfl, fun L5 hL5 => ?_⟩
    have k5 := same_new hL5 (.lst [v2, v4])
    obtain ⟨n1, n2⟩ := md4.neS hL5
    refine ⟨A0, m, S, Pp, L5, v3, stOf (.keep t u), _, _, [v2, v4], [_, _], rfl, md4.same k5, (dat3.kl kl4).kl (KL.of k5), upd_same, .cons (((hv2.keep (Tups.of s3)).keep kl4.tups).keep (Tups.of k5)) (.cons (hv4.keep (Tups.of k5)) .nil), n1, n2, by omega, by omega, (by decide : 2 ≤ 1000), fun H6 p6 f6 md6 hp6 => ?_⟩
    have kl6 := f6.kl (md4.same k5)
    exact q _ _ lv4 ((Fr3.of k0).trans (f2.trans ((Fr3.of s3).trans (f4.trans ((Fr3.of k5).trans (Fr3.of2 f6)))))) md6 ⟨p6, rfl, hp6⟩ (f6 _ _ nLS nLP (k5 _ _ hL4)) (lna_all ((Tups.of k5).trans kl6.tups) pl4)
theorem ok_nodes (F : Fun K "_law_node" "_law_node" s_law_node f fd) (G : Fun K "_law_built" "_law_built" s_law_built g gd) (hmF : mg "_law_node" = some (.ref f)) (hkF : PySem.W.keepIn K (.ref f) = true) (bF : Binds K fd ["_law_made", "_law_term_here", "_law_lines"] []) (hmG : mg "_law_built" = some (.ref g)) (hkG : PySem.W.keepIn K (.ref g) = true) (bG : Binds K gd ["_law_made", "_law_term_here", "_law_line"] []) (T : Txt K mg aS a1 a2) (c__law_station : C8.Cal P w K mg base 1 "_law_station" spLSt []) (c__law_put : C8.Cal P w K mg base 1 "_law_put" spLPut []) (c__law_outer : ∀ n, C8.Cal P w K mg base n "_law_outer" (spOuter n) []) : ∀ n, C8.Cal P w K mg base (2 * n + 10) "_law_node" (spLNode n) []
  | 0 => ⟨f, fd, _, [], ⟨by rintro vs H Q E ⟨A, m, S, Pp, Ll, v, t, ts, ps, lv, ls, rfl, _⟩; rfl, by
      rintro A outer s H args us vs Q E hr e0 hb r ⟨A, m, S, Pp, Ll, v, t, ts, ps, lv, ls, rfl, _, _, _, hn, _⟩
      have := t.nodes_pos
      omega⟩, hmF, hkF, bF, .nil⟩
  | n + 1 => ⟨f, fd, _, [], step_node F T c__law_station c__law_put (ok_nodes F G hmF hkF bF hmG hkG bG T c__law_station c__law_put c__law_outer n) ⟨g, gd, _, [], step_built G T (c__law_outer n) c__law_put (ok_nodes F G hmF hkF bF hmG hkG bG T c__law_station c__law_put c__law_outer n), hmG, hkG, bG, .nil⟩, hmF, hkF, bF, .nil⟩
end
end FY


set_option Elab.async false
set_option linter.all false
set_option maxRecDepth 100000
set_option maxHeartbeats 4000000
namespace FY
open PySem L2 FYR
theorem OkS.nil {st : Stt} {toks : List Ln} (h : OkS st toks) (e : st.1 = []) : st.2 = [] := by
  have b := h.beg
  rw [e] at b
  simp only [linesFrom, List.perm_nil, List.append_eq_nil_iff, List.map_eq_nil_iff] at b
  exact b.1
def spLComp : Sp := fun vs H Q _ => ∃ (v : V) (t : Tm), vs = [v] ∧ TA H v t ∧ t.nodes ≤ 9 ∧ ∀ H' m S Pp, Same H H' → MdA [S, Pp] H' m S Pp (finS (wholeS t none ([], [])).2).1 (finS (wholeS t none ([], [])).2).2 → Q (.ref m) H'
def ownN : Tm → List Tm
  | .inn => []
  | .one w t => .one w t :: ownN t
  | .late b t => .late b t :: ownN t
  | .byy a b c d t u => .byy a b c d t u :: (ownN t ++ ownN u)
  | .keep t u => .keep t u :: (ownN t ++ ownN u)
  | .thn t u => ownN t ++ ownN u
theorem own_len : ∀ t : Tm, (ownN t).length ≤ t.nodes := by
  intro t
  induction t with
  | inn => simp [ownN]
  | one w t ih => simp [ownN, Tm.nodes]; exact ih
  | late w t ih => simp [ownN, Tm.nodes]; exact ih
  | byy a b c d t u i1 i2 => simp [ownN, Tm.nodes]; omega
  | keep t u i1 i2 => simp [ownN, Tm.nodes]; omega
  | thn t u i1 i2 => simp [ownN, Tm.nodes]; omega
theorem own_mem : ∀ {t u : Tm}, u ∈ ownN t → u.isIn = false ∧ u.isThn = false ∧ u.nodes ≤ t.nodes := by
  intro t
  induction t with
  | inn => intro u h; cases h
  | one w t ih =>
    intro u h
    rcases List.mem_cons.mp h with rfl | h
    · exact ⟨rfl, rfl, Nat.le_refl _⟩
    · obtain ⟨a, b, c⟩ := ih h
      exact ⟨a, b, by simp [Tm.nodes]; omega⟩
  | late w t ih =>
    intro u h
    rcases List.mem_cons.mp h with rfl | h
    · exact ⟨rfl, rfl, Nat.le_refl _⟩
    · obtain ⟨a, b, c⟩ := ih h
      exact ⟨a, b, by simp [Tm.nodes]; omega⟩
  | byy a b c d t v i1 i2 =>
    intro u h
    rcases List.mem_cons.mp h with rfl | h
    · exact ⟨rfl, rfl, Nat.le_refl _⟩
    · rcases List.mem_append.mp h with h | h
      · obtain ⟨a, b, c⟩ := i1 h
        exact ⟨a, b, by simp [Tm.nodes]; omega⟩
      · obtain ⟨a, b, c⟩ := i2 h
        exact ⟨a, b, by simp [Tm.nodes]; omega⟩
  | keep t v i1 i2 =>
    intro u h
    rcases List.mem_cons.mp h with rfl | h
    · exact ⟨rfl, rfl, Nat.le_refl _⟩
    · rcases List.mem_append.mp h with h | h
      · obtain ⟨a, b, c⟩ := i1 h
        exact ⟨a, b, by simp [Tm.nodes]; omega⟩
      · obtain ⟨a, b, c⟩ := i2 h
        exact ⟨a, b, by simp [Tm.nodes]; omega⟩
  | thn t v i1 i2 =>
    intro u h
    rcases List.mem_append.mp h with h | h
    · obtain ⟨a, b, c⟩ := i1 h
      exact ⟨a, b, by simp [Tm.nodes]; omega⟩
    · obtain ⟨a, b, c⟩ := i2 h
      exact ⟨a, b, by simp [Tm.nodes]; omega⟩
/-- an item of a node's tuple: a text, or a part -/
def ItA (H : Hp) (v : V) : Option Tm → Prop
  | none => ∃ z, v = .str z
  | some t => TA H v t
def ownO : Option Tm → List Tm
  | none => []
  | some t => ownN t
def itemsT (t : Tm) : List (Option Tm) := t.extra.map (fun _ => none) ++ t.parts.map some
theorem ita_extra {H : Hp} : ∀ zs : List Str, Paired (ItA H) (zs.map V.str) (zs.map fun _ => none)
  | [] => .nil
  | z :: r => .cons ⟨z, rfl⟩ (ita_extra r)
theorem ita_parts {H : Hp} : ∀ {ws : List V} {ts : List Tm}, Paired (TA H) ws ts → Paired (ItA H) ws (ts.map some)
  | _, _, .nil => .nil
  | _, _, .cons r q => .cons r (ita_parts q)
theorem ItA.keep {H H' : Hp} (k : Tups H H') {v : V} : ∀ {o : Option Tm}, ItA H v o → ItA H' v o
  | none, h => h
  | some _, h => TA.keep k h
theorem own_items (t : Tm) (h : t.isIn = false) : ownN t = (if t.isThn then [] else [t]) ++ ((itemsT t).map ownO).flatten := by
  cases t with
  | inn => cases h
  | _ => simp [ownN, itemsT, Tm.extra, Tm.parts, ownO, Tm.isThn]
theorem items_small {t u : Tm} (h : some u ∈ itemsT t) : u.nodes + 1 ≤ t.nodes := by
  rcases List.mem_append.mp h with h | h
  · obtain ⟨_, _, e⟩ := List.mem_map.mp h
    cases e
  · obtain ⟨x, hx, e⟩ := List.mem_map.mp h
    cases e
    exact parts_nodes hx
theorem items_len (t : Tm) : (itemsT t).length ≤ 3 := by cases t <;> simp [itemsT, Tm.extra, Tm.parts]
theorem ta_all {H H' : Hp} (k : Tups H H') : ∀ {vs : List V} {ts : List Tm}, Paired (TA H) vs ts → Paired (TA H') vs ts := fun p => paired_keep k p
theorem owns_len : ∀ (os : List (Option Tm)) (n : Nat), (∀ u, some u ∈ os → u.nodes ≤ n) → ((os.map ownO).flatten).length ≤ os.length * n
  | [], n, _ => by simp
  | o :: r, n, h => by
    have h1 := owns_len r n fun u hu => h u (List.mem_cons_of_mem _ hu)
    have h2 : (ownO o).length ≤ n := by
      cases o with
      | none => exact Nat.zero_le _
      | some u => exact Nat.le_trans (own_len u) (h u (List.mem_cons_self ..))
    simp only [List.map_cons, List.flatten_cons, List.length_append, List.length_cons, Nat.add_mul]
    omega
def spLOwn (n : Nat) : Sp := fun vs H Q _ => ∃ (v : V) (t : Tm), vs = [v] ∧ TA H v t ∧ t.nodes ≤ n ∧ t.nodes ≤ 40 ∧ ∀ H' p us, Same H H' → H' p = some (.lst us) → Paired (TA H') us (ownN t) → Q (.ref p) H'
def spLShown (C : Addr) : Sp := fun vs H Q _ => ∃ (v : V) (t : Stn) (A : List Addr), vs = [v] ∧ StnA C H v t ∧ t.ok ∧ (∀ a ∈ A, H a ≠ none) ∧ ∀ H' v', Same H H' → DatA A H' v' t → Q v' H'
section
variable {P : Program} {w : World} {K : PySem.W.Frag} {mg : Str → Option Value} {base : Heap} {aS a1 a2 aL aT : Addr} {f : Addr} {fd : FuncData} {C CD CY : Addr} {mc : Value}
abbrev s_law_shown : Stmt := top 78
abbrev N_law_shown : List Str := ["_law_station_here"]
theorem sc_law_shown : FnScope N_law_shown ["_law_station_here"] (defScope s_law_shown) := ⟨rfl, rfl, rfl, by decide +kernel, rfl, by decide +kernel, by decide +kernel⟩
theorem ok_law_shown (F : Fun K "_law_shown" "_law_shown" s_law_shown f fd) (pr_ins : Prp P w K mg base 1 C "ins" (spIns C)) (pr_outs : Prp P w K mg base 1 C "outs" (spOuts C)) (m_standings : C8.Met P w K mg base 1 C "standings" (spStandings C) []) : FnOk P w K mg base CX0 3 f fd ["_law_station_here"] (spLShown C) := by
  refine F.ok sc_law_shown (fun vs H Q E h => ?_) (fun cdv A outer s H vs Q E hr h => ?_)
  · obtain ⟨v, t, A', rfl, _⟩ := h
    rfl
  obtain ⟨v, t, A', rfl, st, tok, hA, q⟩ := h
  refine ⟨_, (pss_one (ps_ret (pe_tup (pa_cons (kPrp pr_ins hr (by decide) (pv 0)) (pa_cons (kPrp pr_outs hr (by decide) (pv 0)) (pa_cons (C8.pe_mt0 m_standings hr (by decide) (pv 0)) pa_nil)))))), ?_⟩
  obtain ⟨a, dx, p, ps, rfl, ha, hp, pr⟩ := id st
  have m2 := tok.m2
  refine ⟨_, rfl, a, dx, _, rfl, ha, _, t, rfl, st, _, rfl, a, dx, _, rfl, ha, _, t, rfl, st, _, rfl, a, dx, _, rfl, ha, rfl, _, t, A', rfl, st, by omega, hA, fun H1 p1 ws s1 n1 hp1 pw => ⟨sz rfl, fun p2 hp2 => ?_⟩⟩
  have k := same_new hp2 (.tup [.int t.ins, .int t.outs, .ref p1])
  exact q _ _ (s1.trans' k) ⟨p2, p1, ws, rfl, upd_same, n1, k _ _ hp1, toldX_all (KL.of k) (toldX_sub (fun x hx => List.mem_cons_of_mem _ hx) pw)⟩
abbrev s_law_own_nodes : Stmt := top 77
abbrev N_law_own_nodes : List Str := ["_law_term_here", "_law_found", "_law_part"]
theorem sc_law_own_nodes : FnScope N_law_own_nodes ["_law_term_here"] (defScope s_law_own_nodes) := ⟨rfl, rfl, rfl, by decide +kernel, rfl, by decide +kernel, by decide +kernel⟩
theorem step_own_nodes {n : Nat} (F : Fun K "_law_own_nodes" "_law_own_nodes" s_law_own_nodes f fd) (T : Txt K mg aS a1 a2) (c__law_own_nodes : C8.Cal P w K mg base n "_law_own_nodes" (spLOwn n) []) : FnOk P w K mg base CX0 (n + 1) f fd ["_law_term_here"] (spLOwn (n + 1)) := by
  refine F.ok sc_law_own_nodes (fun vs H Q E h => ?_) (fun cdv A outer s H vs Q E hr h => ?_)
  · obtain ⟨v, t, rfl, _⟩ := h
    rfl
  obtain ⟨v, t, rfl, ta, tn, t40, q⟩ := h
  refine ⟨_, (pss_cons (ps_if (pt_cmpR (kEqD K rfl hr.units) (pv 0) pe_str (nomark _))
        (pss_one (ps_ret (pe_lst pa_nil)))
        pss_nil)
        (pss_cons (ps_set (i := 1) sc_law_own_nodes.nd rfl (Or.inl rfl) (pe_ifExp (pt_cmpR op_ne (pe_ix (kIxT K rfl) (pv 0) pe_int (fun _ _ => rfl)) pe_str (nomark _)) (pe_lst (pa_cons (pv 0) pa_nil)) (pe_lst pa_nil)))
        (pss_cons (ps_for PassesOwn.never rfl (kTup K rfl (pe_slice (kSlT K rfl) (pv 0) (po_some pe_int) po_none)) (pg_name (i := 2) sc_law_own_nodes.nd rfl (Or.inl rfl))
        (pss_one (ps_if (pt_val (pe_callB (kIsi K rfl) rfl T.b_isinstance bt_isinstance (pa_cons (pv 2) (pa_cons (pTy rfl T.b_tuple bt_tuple) pa_nil))))
        (pss_one (ps_expr (kBm K rfl PySem.F.plainAttrs_list PySem.F.slot_list_extend PySem.F.type_list_extend mt_extend (pv 1) (pa_cons (C8.pe_c c__law_own_nodes hr (by omega) rfl (pa_cons (pv 2) pa_nil)) pa_nil))))
        pss_nil)))
        (pss_one (ps_ret (pv 1)))))), ?_⟩
  refine ⟨_, rfl, _, _, ta.dp, .str _, shp_tm t40, shp_in, _, rfl, ?_⟩
  rw [eqv_in]
  cases hin : t.isIn with
  | true =>
    have e : t = .inn := by cases t <;> first | rfl | cases hin
    subst e
    exact iteT ⟨Nat.zero_le _, fun p hp => q _ p [] (same_new hp _) upd_same .nil⟩
  | false =>
    refine iteF ?_
    obtain ⟨a, ws, rfl, ha, pw⟩ := ta.node hin
    have pit : Paired (ItA H) (t.extra.map V.str ++ ws) (itemsT t) := paired_app (ita_extra _) (ita_parts pw)
    have lit := paired_len pit
    have il := items_len t
    refine ⟨_, rfl, _, _, _, _, rfl, rfl, SqT.of ha, at0, rfl, _, rfl, ?_⟩
    rw [word_then]
    cases hth : t.isThn with
    | true =>
      refine iteF ⟨Nat.zero_le _, fun F0 hF0 => ?_⟩
      have kF := same_new hF0 (.lst [])
      have ha1 := kF _ _ ha
      refine ⟨_, rfl, _, rfl, _, _, rfl, SqT.of ha1, nwh _ _, fun p hp => ?_⟩
      rw [cut1]
      have kp := same_new hp (.tup (t.extra.map V.str ++ ws))
      have pF : p ≠ F0 := fun z => by rw [z, upd_same] at hp; cases hp
      refine ⟨_, rfl, ⟨_, SqT.of upd_same⟩, for_it walk_tup (fun i σ H' => ∃ (z2 : Option V) (us : List V), σ = [some (.ref a), some (.ref F0), z2] ∧ Same H H' ∧ H' p = some (.tup (t.extra.map V.str ++ ws)) ∧ H' F0 = some (.lst us) ∧ Paired (TA H') us (([] : List Tm) ++ (((itemsT t).take i).map ownO).flatten)) ?h0 (fun i σ H' _ ⟨_, _, _, _, z, _⟩ => SqT.of z) ?hs ?hd⟩
      case h0 => exact ⟨_, _, rfl, kF.trans' kp, upd_same, kp _ _ upd_same, by simpa using ta_all (Tups.of (kF.trans' kp)) Paired.nil⟩
      case hs =>
        rintro i x σ H2 H3 hi ⟨z2, us, rfl, sm, hp2, hF2, pu⟩ ⟨rfl, hx⟩
        obtain ⟨o, ho, hxo⟩ := paired_get pit hx
        have hil := lt_len ho
        have hxo2 := hxo.keep (Tups.of sm)
        have lu := paired_len pu
        have tk : (((itemsT t).take (i + 1)).map ownO).flatten = (((itemsT t).take i).map ownO).flatten ++ ownO o := by
          rw [List.take_succ, ho]
          simp
        have bnd : us.length ≤ 200 := by
          have := owns_len ((itemsT t).take i) 40 fun u hu => by
            have := items_small (List.mem_of_mem_take hu)
            omega
          rw [lu, List.length_append]
          have : ([] : List Tm).length ≤ 1 := by simp
          have : ((itemsT t).take i).length ≤ 3 := by rw [List.length_take]; omega
          omega
        have skip : ownO o = [] → Paired (TA H3) us (([] : List Tm) ++ (((itemsT t).take (i + 1)).map ownO).flatten) := fun e => by
          rw [tk, e, List.append_nil]
          exact pu
        cases o with
        | none =>
          obtain ⟨z, rfl⟩ := hxo2
          exact ⟨_, rfl, _, _, _, _, _, rfl, .ty _, ty_str _, kst, _, rfl, iteF ⟨_, _, rfl, sm, hp2, hF2, skip rfl⟩⟩
        | some u =>
          have hun := items_small (List.mem_of_getElem? ho)
          cases hu : u.isIn with
          | true =>
            have e : u = .inn := by cases u <;> first | rfl | cases hu
            subst e
            obtain rfl : x = .str "in" := hxo2
            exact ⟨_, rfl, _, _, _, _, _, rfl, .ty _, ty_str _, kst, _, rfl, iteF ⟨_, _, rfl, sm, hp2, hF2, skip rfl⟩⟩
          | false =>
            have hxo3 : TA H3 x u := hxo2
            obtain ⟨b, bs, rfl, hb, _⟩ := hxo3.node hu
            refine ⟨_, rfl, _, _, _, _, _, rfl, .ty _, ty_tup hb, ktt, _, rfl, iteT ?_⟩
            refine ⟨_, rfl, .inl ⟨rfl, _, SqL.of hF2⟩, _, rfl, _, u, rfl, hxo3, by omega, by omega, fun H5 p5 us5 s5 hp5 pu5 => ?_⟩
            have lu5 := paired_len pu5
            have lo := own_len u
            have hF5 := s5 _ _ hF2
            refine ⟨F0, p5, us, us5, rfl, rfl, hF5, hp5, ?_, ?_⟩
            · exact Nat.le_trans (show us.length + us5.length ≤ 100000 by omega) (by decide)
            refine ⟨_, us ++ us5, rfl, same_at (sm.trans' s5) hF0, ?_, upd_same, ?_⟩
            · rw [upd_ne pF]
              exact s5 _ _ hp2
            · rw [tk, ← List.append_assoc]
              exact paired_app (ta_all ((Tups.of s5).trans (tups_at hF5)) pu) (ta_all (tups_at hF5) pu5)
      case hd =>
        rintro σ H2 ⟨z2, us, rfl, sm, hp2, hF2, pu⟩
        rw [lit, List.take_of_length_le (Nat.le_refl _)] at pu
        refine ⟨_, rfl, q _ F0 us sm hF2 ?_⟩
        rw [own_items t hin, hth]
        exact pu
    | false =>
      refine iteT ⟨_, rfl, sz rfl, fun F0 hF0 => ?_⟩
      have kF := same_new hF0 (.lst [.ref a])
      have ha1 := kF _ _ ha
      refine ⟨_, rfl, _, rfl, _, _, rfl, SqT.of ha1, nwh _ _, fun p hp => ?_⟩
      rw [cut1]
      have kp := same_new hp (.tup (t.extra.map V.str ++ ws))
      have pF : p ≠ F0 := fun z => by rw [z, upd_same] at hp; cases hp
      refine ⟨_, rfl, ⟨_, SqT.of upd_same⟩, for_it walk_tup (fun i σ H' => ∃ (z2 : Option V) (us : List V), σ = [some (.ref a), some (.ref F0), z2] ∧ Same H H' ∧ H' p = some (.tup (t.extra.map V.str ++ ws)) ∧ H' F0 = some (.lst us) ∧ Paired (TA H') us ([t] ++ (((itemsT t).take i).map ownO).flatten)) ?h0 (fun i σ H' _ ⟨_, _, _, _, z, _⟩ => SqT.of z) ?hs ?hd⟩
      case h0 => exact ⟨_, _, rfl, kF.trans' kp, upd_same, kp _ _ upd_same, by simpa using ta_all (Tups.of (kF.trans' kp)) (Paired.cons ta Paired.nil)⟩
      case hs =>
        rintro i x σ H2 H3 hi ⟨z2, us, rfl, sm, hp2, hF2, pu⟩ ⟨rfl, hx⟩
        obtain ⟨o, ho, hxo⟩ := paired_get pit hx
        have hil := lt_len ho
        have hxo2 := hxo.keep (Tups.of sm)
        have lu := paired_len pu
        have tk : (((itemsT t).take (i + 1)).map ownO).flatten = (((itemsT t).take i).map ownO).flatten ++ ownO o := by
          rw [List.take_succ, ho]
          simp
        have bnd : us.length ≤ 200 := by
          have := owns_len ((itemsT t).take i) 40 fun u hu => by
            have := items_small (List.mem_of_mem_take hu)
            omega
          rw [lu, List.length_append]
          have : [t].length ≤ 1 := by simp
          have : ((itemsT t).take i).length ≤ 3 := by rw [List.length_take]; omega
          omega
        have skip : ownO o = [] → Paired (TA H3) us ([t] ++ (((itemsT t).take (i + 1)).map ownO).flatten) := fun e => by
          rw [tk, e, List.append_nil]
          exact pu
        cases o with
        | none =>
          obtain ⟨z, rfl⟩ := hxo2
          exact ⟨_, rfl, _, _, _, _, _, rfl, .ty _, ty_str _, kst, _, rfl, iteF ⟨_, _, rfl, sm, hp2, hF2, skip rfl⟩⟩
        | some u =>
          have hun := items_small (List.mem_of_getElem? ho)
          cases hu : u.isIn with
          | true =>
            have e : u = .inn := by cases u <;> first | rfl | cases hu
            subst e
            obtain rfl : x = .str "in" := hxo2
            exact ⟨_, rfl, _, _, _, _, _, rfl, .ty _, ty_str _, kst, _, rfl, iteF ⟨_, _, rfl, sm, hp2, hF2, skip rfl⟩⟩
          | false =>
            have hxo3 : TA H3 x u := hxo2
            obtain ⟨b, bs, rfl, hb, _⟩ := hxo3.node hu
            refine ⟨_, rfl, _, _, _, _, _, rfl, .ty _, ty_tup hb, ktt, _, rfl, iteT ?_⟩
            refine ⟨_, rfl, .inl ⟨rfl, _, SqL.of hF2⟩, _, rfl, _, u, rfl, hxo3, by omega, by omega, fun H5 p5 us5 s5 hp5 pu5 => ?_⟩
            have lu5 := paired_len pu5
            have lo := own_len u
            have hF5 := s5 _ _ hF2
            refine ⟨F0, p5, us, us5, rfl, rfl, hF5, hp5, ?_, ?_⟩
            · exact Nat.le_trans (show us.length + us5.length ≤ 100000 by omega) (by decide)
            refine ⟨_, us ++ us5, rfl, same_at (sm.trans' s5) hF0, ?_, upd_same, ?_⟩
            · rw [upd_ne pF]
              exact s5 _ _ hp2
            · rw [tk, ← List.append_assoc]
              exact paired_app (ta_all ((Tups.of s5).trans (tups_at hF5)) pu) (ta_all (tups_at hF5) pu5)
      case hd =>
        rintro σ H2 ⟨z2, us, rfl, sm, hp2, hF2, pu⟩
        rw [lit, List.take_of_length_le (Nat.le_refl _)] at pu
        refine ⟨_, rfl, q _ F0 us sm hF2 ?_⟩
        rw [own_items t hin, hth]
        exact pu
theorem ok_own_nodes (F : Fun K "_law_own_nodes" "_law_own_nodes" s_law_own_nodes f fd) (T : Txt K mg aS a1 a2) (hm : mg "_law_own_nodes" = some (.ref f)) (hk : PySem.W.keepIn K (.ref f) = true) (hb : Binds K fd ["_law_term_here"] []) : ∀ n, C8.Cal P w K mg base n "_law_own_nodes" (spLOwn n) []
  | 0 => ⟨f, fd, _, [], ⟨by rintro vs H Q E ⟨b, t, rfl, _⟩; rfl, by
      rintro A outer s H args us vs Q E hr e0 hb r ⟨b, t, rfl, _, hn, _⟩
      have := t.nodes_pos
      omega⟩, hm, hk, hb, .nil⟩
  | n + 1 => ⟨f, fd, _, [], step_own_nodes F T (ok_own_nodes F T hm hk hb n), hm, hk, hb, .nil⟩
abbrev s_law_compiled : Stmt := top 76
abbrev N_law_compiled : List Str := ["_law_term_here", "_law_made"]
theorem sc_law_compiled : FnScope N_law_compiled ["_law_term_here"] (defScope s_law_compiled) := ⟨rfl, rfl, rfl, by decide +kernel, rfl, by decide +kernel, by decide +kernel⟩
theorem ok_law_compiled (F : Fun K "_law_compiled" "_law_compiled" s_law_compiled f fd) (c__law_built : C8.Cal P w K mg base 29 "_law_built" (spLBuilt 9) []) : FnOk P w K mg base CX0 30 f fd ["_law_term_here"] spLComp := by
  refine F.ok sc_law_compiled (fun vs H Q E h => ?_) (fun cdv A outer s H vs Q E hr h => ?_)
  · obtain ⟨v, t, rfl, _⟩ := h
    rfl
  obtain ⟨v, t, rfl, ta, tn, q⟩ := h
  refine ⟨_, (pss_cons (ps_set (i := 1) sc_law_compiled.nd rfl (Or.inl rfl) (pe_disp (pps_cons pe_str (pe_lst pa_nil) (pps_cons pe_str (pe_lst pa_nil) pps_nil)) rfl rfl (by decide) (by decide)))
        (pss_cons (ps_expr (C8.pe_c c__law_built hr (by decide) rfl (pa_cons (pv 1) (pa_cons (pv 0) (pa_cons pe_non pa_nil)))))
        (pss_cons (ps_if (pt_cmpR (op_eqN hr.units) (pe_dget (hu1 hr) (pv 1) pe_str (fun _ _ => rfl)) (pe_lst pa_nil) (nomark _))
        (pss_one (ps_expr (kBm K rfl PySem.F.plainAttrs_list PySem.F.slot_list_append PySem.F.type_list_append mt_append (pe_dget (hu1 hr) (pv 1) pe_str (fun _ _ => rfl)) (pa_cons (pe_tup (pa_cons pe_int (pa_cons pe_int (pa_cons (pe_lst (pa_cons (pe_tup (pa_cons pe_str (pa_cons (pe_lst (pa_cons (pe_tup (pa_cons (pe_tup (pa_cons pe_str pa_nil)) (pa_cons pe_int (pa_cons pe_int pa_nil)))) (pa_cons (pe_tup (pa_cons (pe_tup (pa_cons pe_str pa_nil)) (pa_cons pe_int (pa_cons pe_int pa_nil)))) pa_nil))) pa_nil))) pa_nil)) pa_nil)))) pa_nil))))
        pss_nil)
        (pss_one (ps_ret (pv 1)))))), ?_⟩
  intro m hm
  refine ⟨Nat.zero_le _, fun S hS => ⟨Nat.zero_le _, fun Pp hPp => ?_⟩⟩
  have nS : S ≠ m := fun z => by rw [z, upd_same] at hS; cases hS
  have nP : Pp ≠ m := fun z => by rw [z, upd_ne (Ne.symm nS), upd_same] at hPp; cases hPp
  have nPS : Pp ≠ S := fun z => by rw [z, upd_same] at hPp; cases hPp
  have k0 := same_new hm (.dK [])
  have k1 := same_new hS (.lst [])
  have k2 := same_new hPp (.lst [])
  refine ⟨k2 _ _ (k1 _ _ upd_same), mdK S Pp, rfl, (by decide : 2 ≤ 15), ?_⟩
  have em : mergeK [] (mdK S Pp) = mdK S Pp := rfl
  rw [em]
  obtain ⟨H1, hH1⟩ : ∃ H1, H1 = upd (upd (upd (upd H m (.dK [])) S (.lst [])) Pp (.lst [])) m (.dK (mdK S Pp)) := ⟨_, rfl⟩
  have s1 : Same H H1 := fun b o e => by
    rw [hH1, upd_ne (ne_of_none e hm)]
    exact k2 _ _ (k1 _ _ (k0 _ _ e))
  have hm1 : H1 m = some (.dK (mdK S Pp)) := by rw [hH1, upd_same]
  have hS1 : H1 S = some (.lst []) := by rw [hH1, upd_ne nS, upd_ne (Ne.symm nPS), upd_same]
  have hP1 : H1 Pp = some (.lst []) := by rw [hH1, upd_ne nP, upd_same]
  rw [← hH1]
  have nS0 : H S = none := by
    cases e : H S with
    | none => rfl
    | some o => rw [k0 _ _ e] at hS; cases hS
  have nP0 : H Pp = none := by
    cases e : H Pp with
    | none => rfl
    | some o => rw [k1 _ _ (k0 _ _ e)] at hPp; cases hPp
  clear hH1
  have md1 : MdA [S, Pp] H1 m S Pp [] [] := ⟨hm1, ⟨[], hS1, .nil⟩, ⟨[], hP1, .nil⟩, Ne.symm nPS, fun a ha => by
    simp only [List.mem_cons, List.not_mem_nil, or_false] at ha
    rcases ha with rfl | rfl
    · rw [hS1]; simp
    · rw [hP1]; simp, by simp, by simp⟩
  refine ⟨_, rfl, _, rfl, [S, Pp], m, S, Pp, v, .non, t, none, [], [], rfl, md1, ta.keep (Tups.of s1), tn, by omega, rfl, by simp; omega, Nat.le_refl _, fun H2 v2 f2 md2 hv2 => ?_⟩
  have s2 : Same H H2 := fun b o e => f2 _ _ (ne_of_none e nS0) (ne_of_none e nP0) (s1 _ _ e)
  obtain ⟨vs2, hS2, ps2⟩ := md2.st
  refine ⟨_, rfl, m, .ref S, rfl, md2.gS, Nat.zero_le _, fun p0 hp0 => ?_⟩
  have k3 := same_new hp0 (.lst [])
  have md3 := md2.same k3
  refine ⟨S, p0, vs2, rfl, rfl, k3 _ _ hS2, upd_same, _, rfl, ?_⟩
  have okS := (wholeS_ok t none ([], []) [] OkS.start).1
  generalize hst : (wholeS t none ([], [])).2 = st at *
  obtain ⟨tsx, psx⟩ := st
  simp only at md2 md3 ps2
  cases tsx with
  | nil =>
    cases ps2
    have ep : psx = [] := okS.nil rfl
    subst ep
    refine iteT ?_
    refine ⟨_, rfl, m, .ref S, rfl, md3.gS, .inl ⟨rfl, _, SqL.of (k3 _ _ hS2)⟩, ?_⟩
    refine (dis_stat (A := [S, Pp]) 1 1 (dis_stgs md3.al (by decide) (dis_cons (to_mon [S, Pp] _) (dis_told .one rd1 (dis_rows md3.al (by decide) (dis_cons (rw_mon _) (dis_row [false] 0 z0) (dis_cons (rw_mon _) (dis_row [true] 0 z1) dis_nil)))) dis_nil))) _ _ (Same.refl _) fun H4 v4 s4 dat4 => ?_
    have dat4 : DatA [S, Pp] H4 v4 passSt := dat4
    have hS4 := s4 _ _ (k3 _ _ hS2)
    have md4 := md3.same s4
    refine ⟨S, [], v4, rfl, rfl, hS4, Nat.zero_lt_of_lt (show 0 < sizeLine by decide), ?_⟩
    have kl := KL.at (A := [S, Pp]) (o := .lst ([] ++ [v4])) hS4 (by simp)
    obtain ⟨ws4, hP4, pp4⟩ := md4.pp
    refine ⟨_, rfl, q _ m S Pp (fun b o e => ?_) ⟨kl _ _ (fun _ xs z => nomatch z) md4.ob, ⟨[v4], upd_same, .cons (dat4.kl kl) .nil⟩, ⟨ws4, by rw [upd_ne nPS]; exact hP4, pipe_all kl.tups pp4⟩, Ne.symm nPS, fun a ha e => ?_, by simp, by simp⟩⟩
    · rw [upd_ne (ne_of_none e nS0)]
      exact s4 _ _ (k3 _ _ (s2 _ _ e))
    · by_cases h1 : a = S
      · rw [h1, upd_same] at e; cases e
      · rw [upd_ne h1] at e; exact md4.al a ha e
  | cons t0 tr =>
    have e : vs2.isEmpty = false := by
      cases ps2
      rfl
    rw [e]
    refine iteF ⟨_, rfl, q _ m S Pp (s2.trans' k3) md3⟩
end
end FY


set_option Elab.async false
set_option linter.all false
set_option maxRecDepth 100000
set_option maxHeartbeats 4000000
namespace FY
open PySem L2 FYR
theorem nodup_exit {bs ls : List (Nat × Nat)} {x : Nat × Nat} (hp : (bs ++ [x]).Perm ls) (hn : ls.Nodup) : (ls.filter fun l => !decide (l ∈ bs)).length = 1 := by
  have n1 : (bs ++ [x]).Nodup := hp.symm.nodup hn
  obtain ⟨_, _, dis⟩ := List.nodup_append.mp n1
  have hx : x ∉ bs := fun z => dis x z x (by simp) rfl
  have e := (hp.filter fun l => !decide (l ∈ bs)).length_eq
  rw [← e, List.filter_append, List.filter_eq_nil_iff.mpr (by intro a ha; simp [ha]), List.filter_cons_of_pos (by simpa using hx)]
  rfl
theorem okS_yd {st : Stt} {l : Ln} (h : OkS st [l]) (hne : st.1 ≠ []) (hl : st.1.length ≤ 12) : YdOk st.1 st.2 ∧ (exitsOf st.1 st.2).length = 1 := by
  obtain ⟨ts, ps⟩ := st
  cases l with
  | none => exact absurd (h.ent (by simp)) hne
  | some x =>
    have hb : (ps.map pb ++ [x]).Perm (linesFrom 0 ts) := h.beg
    have ex := nodup_exit hb (lines_nodup 0 ts)
    have nb : (ps.map pb).Nodup := (List.nodup_append.mp (hb.symm.nodup (lines_nodup 0 ts))).1
    have cn : ps.length + 1 = sumIns ts := h.cnt
    have si : ∀ us : List Stn, (∀ t ∈ us, t.ok) → sumIns us ≤ 2 * us.length := by
      intro us
      induction us with
      | nil => intro _; exact Nat.le_refl 0
      | cons t r ih =>
        intro hu
        have := ih fun z hz => hu z (List.mem_cons_of_mem _ hz)
        have := (hu t (List.mem_cons_self ..)).i2
        simp only [sumIns, List.length_cons]
        omega
    have s2 := si ts h.okk
    have m1 : 1 ≤ ts.length := by
      cases ts with
      | nil => exact absurd rfl hne
      | cons _ _ => simp
    have hl' : ts.length ≤ 12 := hl
    refine ⟨⟨m1, hl, h.fst, h.okk, fun p hp => ?_, nb, h.ends, Nat.le_of_eq cn.symm, by show ps.length < 64; omega, by show (exitsOf ts ps).length ≤ 3; have : (exitsOf ts ps).length = 1 := ex; omega, .inr (Nat.le_of_eq ex)⟩, ex⟩
    obtain ⟨lt, t2, g2, b2⟩ := h.far p hp
    have hm : pb p ∈ linesFrom 0 ts := hb.mem_iff.mp (List.mem_append_left _ (List.mem_map_of_mem hp))
    obtain ⟨i, t1, g1, e1, b1⟩ := mem_lines hm
    have e1' : p.1 = i := by rw [Nat.zero_add] at e1; exact e1
    subst e1'
    exact ⟨lt, ⟨t1, g1, b1, (h.okk t1 (List.mem_of_getElem? g1)).o2⟩, ⟨t2, g2, b2, (h.okk t2 (List.mem_of_getElem? g2)).i2⟩⟩
abbrev wst (t : Tm) : Stt := (wholeS t none ([], [])).2
theorem fin_ok (t : Tm) (h : t.nodes ≤ 9) : stOk (wst t) ∧ YdOk (finS (wst t)).1 (finS (wst t)).2 ∧ (exitsOf (finS (wst t)).1 (finS (wst t)).2).length = 1 := by
  obtain ⟨ok, len⟩ := wholeS_ok t none ([], []) [] OkS.start
  by_cases e : (wst t).1 = []
  · refine ⟨.inl e, ?_⟩
    have : finS (wst t) = ([passSt], []) := by unfold finS; rw [if_pos e]
    rw [this]
    exact ⟨pass_yd, rfl⟩
  · have : finS (wst t) = wst t := by unfold finS; rw [if_neg e]
    have len' : (wst t).1.length + 1 ≤ 0 + t.nodes := len
    obtain ⟨a, b⟩ := okS_yd ok e (by show (wst t).1.length ≤ 12; omega)
    rw [this]
    exact ⟨.inr a, a, b⟩
/-! calls by keywords alone; calls of a def whose promise leans on «no repr under way» -/
structure CalK (P : Program) (w : World) (K : PySem.W.Frag) (mg : Str → Option Value) (base : Heap) (k : Nat) (x : Str) (sp : Sp) (ks : List Str) (g : List Value → List Value → List Value) (gV : List V → List V → List V) : Prop where
  ex : ∃ (f : Addr) (fd : FuncData) (ps : List Str), FnOk P w K mg base CX0 k f fd ps sp ∧ mg x = some (.ref f) ∧ PySem.W.keepIn K (.ref f) = true ∧ KBn K fd ps 0 ks g gV
structure CalG (P : Program) (w : World) (K : PySem.W.Frag) (mg : Str → Option Value) (base : Heap) (k : Nat) (x : Str) (sp : Sp) : Prop where
  ex : ∃ (f : Addr) (fd : FuncData) (ps : List Str), FnG P w K mg base k f fd ps sp ∧ mg x = some (.ref f) ∧ PySem.W.keepIn K (.ref f) = true ∧ Binds K fd ps []
section
variable {X : Cx} {k j : Nat} {x : Str} {sp : Sp} {ks : List Str} {g : List Value → List Value → List Value} {gV : List V → List V → List V} {p pos : Pos} {kws : List Keyword} {tk t : L2.TA} {e : Expr} {es : List Expr}
theorem pe_cK (c : CalK X.prog X.w X.K X.mg X.base k x sp ks g gV) (hr : Room j X.A) (hk : k ≤ j) (hg : Gl X x) (hkw : PK X kws tk) (hall : (backToKw pos (keywordEach kws X.env)).all (·.1.isSome) = true := by rfl) (hks : (backToKw pos (keywordEach kws X.env)).filterMap (·.1) = ks := by rfl)
    (hdb : (x == ("__debug__" : Str)) = false := by decide)
    (hpl : ((backTo pos (starEach [] X.env)).any (·.1) || (backToKw pos (keywordEach kws X.env)).any (·.1.isNone)) = false := by rfl) : PE X (.Call (.Name x p) [] kws pos) (tCallN0 ks.length sp gV C8.E0 tk) := by
  obtain ⟨f, fd, ps, F, hm, kp, b⟩ := c.ex
  exact pe_callN0 F (hr.mono hk) hg hm kp b pass0 hkw hall hks hdb hpl
theorem pe_cG (c : CalG X.prog X.w X.K X.mg X.base k x sp) (hgd : X.A.guards = some []) (hr : Room j X.A) (hk : k ≤ j) (hg : Gl X x) (ha : PA X (e :: es) t)
    (hdb : (x == ("__debug__" : Str)) = false := by decide) (he : starEach (e :: es) X.env = (false, eval e X.env) :: starEach es X.env := by rfl) (hpl : (backTo pos (starEach es X.env)).any (·.1) = false := by rfl) :
    PE X (.Call (.Name x p) (e :: es) [] pos) (tCall sp [] C8.E0 t) := by
  obtain ⟨f, fd, ps, F, hm, kp, b⟩ := c.ex
  exact pe_callG F hgd (hr.mono hk) hg hm kp b ha hdb he hpl
end
def spLong : Sp := fun vs H Q _ => ∃ p, vs = [.ref p] ∧ Pot p H ∧ ∀ H', Kp p H H' → Pot p H' → Q (.bl true) H'
def spLaw (K : PySem.W.Frag) : Sp := fun vs H Q _ => ∃ (L : Addr) (ns : List Int), vs = [.ref L] ∧ SqL K H L (ns.map V.int) ∧ ∀ H', Q (.bl true) H'
theorem st_eq (x y : Str) (h : x = y) : decide (V.str x = V.str y) = true := by rw [h]; simp
theorem st_ne (x y : Str) (h : x = y) : (!decide (V.str x = V.str y)) = false := by rw [h]; simp
theorem sts_nice {ts : List Stn} (h : ∀ t ∈ ts, t.ok) (hm : ts.length ≤ 100) : Nice 7 244000 (.list (ts.map stD)) := by
  refine nice_lst (n := 6) (w := 2439) (m := 100) (fun d hd => ?_) (by rw [List.length_map]; exact hm)
  obtain ⟨t, ht, rfl⟩ := List.mem_map.mp hd
  exact st_nice (h t ht)
theorem ppl_nice {ps : List Pipe} (h : ∀ p ∈ ps, SmP p) (hm : ps.length ≤ 100) : Nice 2 3300 (.list (ps.map ppD)) := by
  refine nice_lst (n := 1) (w := 32) (m := 100) (fun d hd => ?_) (by rw [List.length_map]; exact hm)
  obtain ⟨p, hp, rfl⟩ := List.mem_map.mp hd
  exact pp_nice (h p hp)
end FY


set_option Elab.async false
set_option linter.all false
set_option maxRecDepth 100000
set_option maxHeartbeats 4000000
namespace FY
open PySem L2 FYR
theorem sort_pp {K : PySem.W.Frag} {H : Hp} {ws zs : List V} {ps : List Pipe} (pp : Paired (PipeA H) ws ps) (sm : ∀ p ∈ ps, SmP p) (pz : zs.Perm ws) (sz2 : zs.Pairwise fun x y => ∀ n m, TupI K H x n → TupI K H y m → TS.code 128 n ≤ TS.code 128 m) : Paired (PipeA H) zs (srt ps) := by
  obtain ⟨qs, pq, pz3⟩ := paired_perm pz pp
  have eq : qs = srt ps := srt_eq sm pq (paired_pw (fun x y a b ra rb sxy => by
    obtain ⟨ta, rfl, hta⟩ := ra
    obtain ⟨tb, rfl, htb⟩ := rb
    exact sxy [(a.1 : Int), (a.2.1 : Int), (a.2.2.1 : Int), (a.2.2.2 : Int)] [(b.1 : Int), (b.2.1 : Int), (b.2.2.1 : Int), (b.2.2.2 : Int)] ⟨ta, rfl, SqT.of hta⟩ ⟨tb, rfl, SqT.of htb⟩) pz3 sz2)
  rw [← eq]
  exact pz3
theorem tupI_pp {K : PySem.W.Frag} {H : Hp} {ws : List V} {ps : List Pipe} (pp : Paired (PipeA H) ws ps) (sm : ∀ p ∈ ps, SmP p) : ∀ x ∈ ws, ∃ ns, TupI K H x ns ∧ ns.length = 4 ∧ TS.Bd 128 ns := fun x hx => by
  obtain ⟨i, hi⟩ := List.mem_iff_getElem?.mp hx
  obtain ⟨pi, hpi, tp, rfl, htp⟩ := paired_get pp hi
  have s := sm pi (List.mem_of_getElem? hpi)
  refine ⟨[(pi.1 : Int), (pi.2.1 : Int), (pi.2.2.1 : Int), (pi.2.2.2 : Int)], ⟨tp, rfl, SqT.of htp⟩, rfl, fun m hm => ?_⟩
  simp only [List.mem_cons, List.not_mem_nil, or_false] at hm
  rcases hm with rfl | rfl | rfl | rfl <;> omega
theorem YdA.at {CY C : Addr} {H : Hp} {y : Addr} {ts : List Stn} {ps : List Pipe} (h : YdA CY C H y ts ps) : ∃ dx fs, H y = some (.ins CY dx fs) := by
  obtain ⟨dx, a, b, c, d, e, f, hy, _⟩ := h.ob
  exact ⟨dx, _, hy⟩
section
variable {P : Program} {w : World} {K : PySem.W.Frag} {mg : Str → Option Value} {base : Heap} {aS a1 a2 aL aT : Addr} {f : Addr} {fd : FuncData} {C CD CY : Addr} {mc : Value}
abbrev s_law_right : Stmt := top 79
abbrev N_law_right : List Str := ["_law_pot_here", "_law_term_here", "_law_made", "_law_yard", "_law_told", "_law_sources", "_law_ends", "_law_number", "_law_data", "_law_own", "_law_node_here", "_law_station_here", "_law_pipe", "_law_at"]
theorem sc_law_right : FnScope N_law_right ["_law_pot_here"] (defScope s_law_right) := ⟨rfl, rfl, rfl, by decide +kernel, rfl, by decide +kernel, by decide +kernel⟩
theorem ok_law_right (F : Fun K "_law_right" "_law_right" s_law_right f fd) (T : Txt K mg aS a1 a2) (c__law_draw : C8.Cal P w K mg base 1 "_law_draw" spDraw []) (c__law_term : C8.Cal P w K mg base 12 "_law_term" (spTerm 9) []) (c__law_compiled : C8.Cal P w K mg base 30 "_law_compiled" spLComp []) (c_compiled : C8.Cal P w K mg base 30 "compiled" (spCompiled CY C) []) (k_compiled : CalK P w K mg base 30 "compiled" (spCompiled CY C) ["term"] (fun _ ws => ws) (fun _ zs => zs)) (c__law_shown : C8.Cal P w K mg base 3 "_law_shown" (spLShown C) []) (c_station_for : C8.Cal P w K mg base 10 "station_for" (spStFor C) []) (c__law_station : C8.Cal P w K mg base 1 "_law_station" spLSt []) (c__law_own_nodes : C8.Cal P w K mg base 9 "_law_own_nodes" (spLOwn 9) [])
    (pr_Y_stations : Prp P w K mg base 1 CY "stations" (spYS CY C)) (pr_Y_pipes : Prp P w K mg base 1 CY "pipes" (spYP CY C)) (pr_Y_exits : Prp P w K mg base 1 CY "exits" (spYE CY C)) (pr_Y_begin : Prp P w K mg base 1 CY "begin" (spYB CY C)) (lY : LenC P w K mg base 1 CY (spYL CY C)) (eY : EqC P w K mg base 3 CY (YdEq CY C)) (mk_Yard : C8.Mak P w K mg base 6 "Yard" CY (spYdInit CY C) [.non]) (mk_Station : C8.Mak P w K mg base 6 "Station" C (spStInit C) []) : FnG P w K mg base 31 f fd ["_law_pot_here"] spLong := by
  refine fnG_of F sc_law_right (fun vs H Q E h => ?_) (fun cdv A outer s H vs Q E hgd' hr h => ?_)
  · obtain ⟨p, rfl, _⟩ := h
    rfl
  obtain ⟨p, rfl, p0, q⟩ := h
  have hgd : (A.deeper (PyProof.Rows.envOfC "_law_right" (defScope s_law_right) s.heap.objs.size f cdv)).guards = some [] := hgd'
  refine ⟨_, (pss_cons (ps_set (i := 1) sc_law_right.nd rfl (Or.inl rfl) (C8.pe_c c__law_term hr (by decide) rfl (pa_cons (pv 0) (pa_cons (pe_op op_add pe_int (C8.pe_c c__law_draw hr (by decide) rfl (pa_cons (pv 0) (pa_cons pe_int pa_nil)))) pa_nil))))
        (pss_cons (ps_par (i := 2) (j := 3) rfl sc_law_right.nd rfl rfl (by decide) rfl rfl (pa_cons (C8.pe_c c__law_compiled hr (by decide) rfl (pa_cons (pv 1) pa_nil)) (pa_cons (C8.pe_c c_compiled hr (by decide) rfl (pa_cons (pv 1) pa_nil)) pa_nil)) rfl)
        (pss_cons (ps_setLc (i := 4) (own := [("_law_station_here", 11)]) rfl sc_law_right.nd rfl rfl (sw_true rfl rfl rfl (by decide +kernel)) (kList K rfl (kPrp pr_Y_stations hr (by decide) (pv 3))) (blkOk_by (N := N_law_right) (sc := defScope s_law_right) (by decide +kernel)) (fun _ _ _ _ _ => (pg_name (i := 11) sc_law_right.nd rfl (Or.inl rfl))) (fun _ _ _ _ _ => pts_nil) (fun _ _ _ _ _ => (C8.pe_c c__law_shown hr (by decide) rfl (pa_cons (pv 11) pa_nil))))
        (pss_cons (ps_if (PW.pt (pw_or (pt_cmpR op_ne (pe_callB (kRepr K rfl hgd hr) rfl T.b_repr bt_repr (pa_cons (pv 4) pa_nil)) (pe_callB (kRepr K rfl hgd hr) rfl T.b_repr bt_repr (pa_cons (pe_dget (hu1 hr) (pv 2) pe_str (fun _ _ => rfl)) pa_nil)) (nomark _)) (pw_or1 (pt_cmpR op_ne (pe_callB (kRepr K rfl hgd hr) rfl T.b_repr bt_repr (pa_cons (kPrp pr_Y_pipes hr (by decide) (pv 3)) pa_nil)) (pe_callB (kRepr K rfl hgd hr) rfl T.b_repr bt_repr (pa_cons (pe_callB (kSortT K (d := 4) (B := 128) rfl (by decide)) rfl T.b_sorted bt_sorted (pa_cons (pe_dget (hu1 hr) (pv 2) pe_str (fun _ _ => rfl)) pa_nil)) pa_nil)) (nomark _)))))
        (pss_one (ps_ret pe_bl))
        pss_nil)
        (pss_cons (ps_if (PW.pt (pw_or (pt_cmpR (kNeD K rfl hr.units) (kPrp pr_Y_begin hr (by decide) (pv 3)) (pe_tup (pa_cons (pe_op (kRepA K rfl) (pe_tup (pa_cons pe_int pa_nil)) (pe_callB (kLen K rfl) rfl T.b_len bt_len (pa_cons (pv 4) pa_nil))) (pa_cons (pe_op (kRepA K rfl) (pe_tup (pa_cons pe_str pa_nil)) (pe_callB (kLen K rfl) rfl T.b_len bt_len (pa_cons (pe_dget (hu1 hr) (pv 2) pe_str (fun _ _ => rfl)) pa_nil))) pa_nil))) (nomark _)) (pw_or1 (pt_cmpR op_ne (pe_callB (kLenO lY hr (by decide)) rfl T.b_len bt_len (pa_cons (pv 3) pa_nil)) (pe_callB (kLen K rfl) rfl T.b_len bt_len (pa_cons (pv 4) pa_nil)) (nomark _)))))
        (pss_one (ps_ret pe_bl))
        pss_nil)
        (pss_cons (ps_set (i := 5) sc_law_right.nd rfl (Or.inr rfl) (pe_lc (own := [("_law_pipe", 12)]) rfl sc_law_right.nd (kList K rfl (pe_dget (hu1 hr) (pv 2) pe_str (fun _ _ => rfl))) (blkOk_by (N := N_law_right) (sc := defScope s_law_right) (by decide +kernel)) (fun _ _ _ _ _ => (pg_name (i := 12) sc_law_right.nd rfl (Or.inl rfl))) (fun _ _ _ _ _ => pts_nil) (fun _ _ _ _ _ => (pe_slice (kSlT K rfl) (pv 12) po_none (po_some pe_int)))))
        (pss_cons (ps_set (i := 6) sc_law_right.nd rfl (Or.inl rfl) (pe_lst pa_nil))
        (pss_cons (ps_for PassesOwn.never rfl (kEnum K rfl rfl T.b_enumerate (pa_cons (pe_dget (hu1 hr) (pv 2) pe_str (fun _ _ => rfl)) pa_nil)) (kTupG (n := 2) K rfl rfl (pgs_cons (pg_name (i := 7) sc_law_right.nd rfl (Or.inr rfl)) (pgs_cons (pg_name (i := 8) sc_law_right.nd rfl (Or.inl rfl)) pgs_nil)))
        (pss_one (ps_expr (kBm K rfl PySem.F.plainAttrs_list PySem.F.slot_list_extend PySem.F.type_list_extend mt_extend (pv 6) (pa_cons (pe_lc (own := [("_law_at", 13)]) rfl sc_law_right.nd (pi_range1 rfl T.b_range (pa_cons (pe_ix (kIxT K rfl) (pv 8) pe_int (fun _ _ => rfl)) pa_nil)) (blkOk_by (N := N_law_right) (sc := defScope s_law_right) (by decide +kernel)) (fun _ _ _ _ _ => (pg_name (i := 13) sc_law_right.nd rfl (Or.inl rfl))) (fun _ _ _ _ _ => pts_one (pt_cmpR (kNotInD K rfl (hu65 hr)) (pe_tup (pa_cons (pv 7) (pa_cons (pv 13) pa_nil))) (pv 5) rfl)) (fun _ _ _ _ _ => (pe_tup (pa_cons (pv 7) (pa_cons (pv 13) pa_nil))))) pa_nil)))))
        (pss_cons (ps_if (PW.pt (pw_or (pt_cmpR op_ne (pe_callB (kRepr K rfl hgd hr) rfl T.b_repr bt_repr (pa_cons (kPrp pr_Y_exits hr (by decide) (pv 3)) pa_nil)) (pe_callB (kRepr K rfl hgd hr) rfl T.b_repr bt_repr (pa_cons (pv 6) pa_nil)) (nomark _)) (pw_or1 (pt_cmpR op_ne (pe_callB (kLen K rfl) rfl T.b_len bt_len (pa_cons (pv 6) pa_nil)) pe_int (nomark _)))))
        (pss_one (ps_ret pe_bl))
        pss_nil)
        (pss_cons (ps_expr (kBm0 K rfl PySem.F.plainAttrs_list PySem.F.slot_list_clear PySem.F.type_list_clear mt_clear (kPrp pr_Y_stations hr (by decide) (pv 3))))
        (pss_cons (ps_expr (kBm K rfl PySem.F.plainAttrs_list PySem.F.slot_list_append PySem.F.type_list_append mt_append (kPrp pr_Y_pipes hr (by decide) (pv 3)) (pa_cons pe_non pa_nil)))
        (pss_cons (ps_set (i := 9) sc_law_right.nd rfl (Or.inl rfl) (C8.pe_mk mk_Yard hr (by decide) rfl (pa_cons (pe_lc (own := [("_law_data", 8)]) rfl sc_law_right.nd (kList K rfl (pe_dget (hu1 hr) (pv 2) pe_str (fun _ _ => rfl))) (blkOk_by (N := N_law_right) (sc := defScope s_law_right) (by decide +kernel)) (fun _ _ _ _ _ => (pg_name (i := 8) sc_law_right.nd rfl (Or.inl rfl))) (fun _ _ _ _ _ => pts_nil) (fun _ _ _ _ _ => (C8.pe_mk mk_Station hr (by decide) rfl (pa_cons (pe_ix (kIxT K rfl) (pv 8) pe_int (fun _ _ => rfl)) (pa_cons (pe_ix (kIxT K rfl) (pv 8) pe_int (fun _ _ => rfl)) (pa_cons (pe_ix (kIxT K rfl) (pv 8) pe_int (fun _ _ => rfl)) pa_nil)))))) (pa_cons (pe_dget (hu1 hr) (pv 2) pe_str (fun _ _ => rfl)) pa_nil))))
        (pss_cons (ps_if (PW.pt (pw_or (pt_cmpR (kNeO eY hr (by decide)) (pv 3) (pv 9) (nomark _)) (pw_or1 (pt_cmpR (kNeO eY hr (by decide)) (pe_cK k_compiled hr (by decide) rfl (pk_cons (pv 1) pk_nil)) (pv 9) (nomark _)))))
        (pss_one (ps_ret pe_bl))
        pss_nil)
        (pss_cons (ps_for PassesOwn.never rfl (kList K rfl (C8.pe_c c__law_own_nodes hr (by decide) rfl (pa_cons (pv 1) pa_nil))) (pg_name (i := 10) sc_law_right.nd rfl (Or.inl rfl))
        (pss_one (ps_if (pt_cmpR op_ne (pe_callB (kRepr K rfl hgd hr) rfl T.b_repr bt_repr (pa_cons (C8.pe_c c__law_shown hr (by decide) rfl (pa_cons (C8.pe_c c_station_for hr (by decide) rfl (pa_cons (pv 10) pa_nil)) pa_nil)) pa_nil)) (pe_callB (kRepr K rfl hgd hr) rfl T.b_repr bt_repr (pa_cons (C8.pe_c c__law_station hr (by decide) rfl (pa_cons (pv 10) pa_nil)) pa_nil)) (nomark _))
        (pss_one (ps_ret pe_bl))
        pss_nil)))
        (pss_one (ps_ret (pe_cmpR (kEqO eY hr (by decide)) (C8.pe_c c_compiled hr (by decide) rfl (pa_cons (pv 1) pa_nil)) (pv 9) (nomark _)))))))))))))))))), ?_⟩
  refine ⟨_, rfl, _, rfl, p, _, rfl, p0, by decide, by decide, fun d H1 d0 d1 k1 p1 => ⟨_, _, rfl, rfl, p, _, rfl, p1, by omega, by omega, by decide, fun v t H2 ht hn k2 p2 => ?_⟩⟩
  have n9 : t.nodes ≤ 9 := by omega
  obtain ⟨sok, yok, ex1⟩ := fin_ok t n9
  refine ⟨_, rfl, v, t, rfl, ht, n9, fun H3 m S Pp s3 md3 => ⟨_, rfl, v, t, rfl, ht.keep (Tups.of s3), n9, sok, fun H4 y s4 ya4 => ⟨_, _, rfl, ?_⟩⟩⟩
  have md4 := md3.same s4
  have s24 := s3.trans' s4
  have q4 : ∀ H', Same H4 H' → Q (.bl true) H' := fun H' s' => q _ ((k1.trans k2).trans (Kp.of (s24.trans' s'))) (p2.same (s24.trans' s'))
  have ht4 := ht.keep (Tups.of s24)
  clear md3 p2 k1 k2 p1 s3 s4 ht
  generalize hst : finS (wst t) = st at *
  obtain ⟨ts, ps⟩ := st
  simp only at md4 ya4 yok ex1
  have m2 := yok.m2
  have mp := yok.mp
  have smP : ∀ p ∈ ps, SmP p := fun p hp => ppok_le (yok.pp p hp) (by omega)
  -- told
  obtain ⟨dx4, fs4, hy4⟩ := ya4.at
  refine ⟨_, rfl, y, dx4, fs4, rfl, hy4, y, ts, ps, rfl, ya4, fun pS us hpS pus => ?_⟩
  have k5 := same_new hpS (.lst us)
  obtain ⟨H5, hH5⟩ : ∃ H5, H5 = upd H4 pS (.lst us) := ⟨_, rfl⟩
  have hpS5 : H5 pS = some (.lst us) := by rw [hH5, upd_same]
  rw [← hH5] at k5 ⊢
  clear hH5
  have pus5 := stn_all (NL.of k5) pus
  have lus := paired_len pus
  refine ⟨_, rfl, ⟨_, SqL.of hpS5⟩, fun D hD => lc_it walk_list (fun i H' => Same H5 H' ∧ ∃ vs, H' D = some (.lst vs) ∧ Paired (DatA [D] H') vs (ts.take i)) ⟨same_new hD _, [], upd_same, .nil⟩ (fun i H' _ z => SqL.of (z.1 _ _ hpS5)) ?_ ?_⟩
  · rintro i x G1 G2 hi ⟨sm, vs, hd, pv⟩ ⟨rfl, hx⟩
    obtain ⟨st, hst, hxs⟩ := paired_get pus5 hx
    have hil := lt_len hst
    have lv := paired_len pv
    refine ⟨rfl, tyI ⟨_, rfl, x, st, [D], rfl, hxs.but2 (NL.of sm), yok.ok st (List.mem_of_getElem? hst), fun a ha => by rw [List.mem_singleton.mp ha, hd]; simp, fun G3 v3 s3 dat3 => ?_⟩⟩
    have hd3 := s3 _ _ hd
    have kl := KL.at (A := [D]) (o := .lst (vs ++ [v3])) hd3 (by simp)
    refine ⟨_, hd3, ?_, same_at (sm.trans' s3) hD, vs ++ [v3], upd_same, ?_⟩
    · rw [List.length_take] at lv
      exact Nat.lt_of_lt_of_le (show vs.length < 100000 by omega) (by decide)
    · rw [List.take_succ, hst]
      exact paired_app (dat_all ((KL.of s3).trans kl) pv) (.cons (dat3.kl kl) .nil)
  rintro H6 ⟨s6, tv, hD6, ptv⟩
  rw [lus, List.take_of_length_le (Nat.le_refl _)] at ptv
  have s46 := k5.trans' s6
  have md6 := md4.same s46
  have ya6 := ya4.nl (NL.of s46)
  have hy6 := s46 _ _ hy4
  obtain ⟨sv, hS6, psv⟩ := md6.st
  obtain ⟨pw, hP6, ppw⟩ := md6.pp
  have nT := sts_nice yok.ok (by omega)
  refine ⟨_, rfl, .ref D, _, rfl, .lst (SqL.of hD6) (dpall (fun _ _ r => r.dp) ptv), nT.sh, nT.nd, Nat.le_trans nT.dep (by decide), nT.shown (by decide) (by decide), ?_⟩
  refine ⟨_, rfl, m, .ref S, rfl, md6.gS, .ref S, _, rfl, .lst (SqL.of hS6) (dpall (fun _ _ r => r.dp) psv), nT.sh, nT.nd, Nat.le_trans nT.dep (by decide), nT.shown (by decide) (by decide), rfl, _, rfl, iteFd (st_ne _ _ rfl) ?_⟩
  -- pipes
  have nP := ppl_nice (ps := srt ps) (fun p hp => smP p ((srt_perm ps).mem_iff.mp hp)) (by rw [(srt_perm ps).length_eq]; omega)
  have lpw := paired_len ppw
  refine ⟨_, rfl, y, dx4, fs4, rfl, hy6, y, ts, ps, rfl, ya6, fun pP wsP hpP pwsP => ?_⟩
  have k7 := same_new hpP (.lst wsP)
  refine ⟨.ref pP, _, rfl, .lst (SqL.of upd_same) (dpall (fun _ _ r => r.dp) (pipe_all (Tups.of k7) pwsP)), nP.sh, nP.nd, Nat.le_trans nP.dep (by decide), nP.shown (by decide) (by decide), ?_⟩
  refine ⟨_, rfl, m, .ref Pp, rfl, (md6.same k7).gP, Pp, pw, rfl, SqL.of (k7 _ _ hP6), by omega, tupI_pp (pipe_all (Tups.of k7) ppw) smP, fun zs pz perm srt2 hpz => ?_⟩
  have pzs := sort_pp (pipe_all (Tups.of k7) ppw) smP perm srt2
  have k8 := same_new hpz (.lst zs)
  refine ⟨.ref pz, _, rfl, .lst (SqL.of upd_same) (dpall (fun _ _ r => r.dp) (pipe_all (Tups.of k8) pzs)), nP.sh, nP.nd, Nat.le_trans nP.dep (by decide), nP.shown (by decide) (by decide), rfl, _, rfl, iteFd (st_ne _ _ rfl) ?_⟩
  have s68 := k7.trans' k8
  generalize upd (upd H6 pP (HO.lst wsP)) pz (HO.lst zs) = H8 at *
  clear k7 k8 perm srt2 hpz pzs hpP
  -- begin
  have ya8 := ya6.nl (NL.of s68)
  have md8 := md6.same s68
  have hy8 := s68 _ _ hy6
  have hD8 := s68 _ _ hD6
  have hP8 := s68 _ _ hP6
  have ltv := paired_len ptv
  have nB := bg_nice (n := ts.length) (m := ps.length) (by omega) (by omega)
  refine ⟨_, rfl, y, dx4, fs4, rfl, hy8, y, ts, ps, rfl, ya8, fun d bg => ?_⟩
  refine ⟨sz rfl, fun e0 he0 => ?_⟩
  have k9 := same_new he0 (.tup [.int 0])
  refine ⟨_, rfl, _, _, rfl, .inl (SqL.of (k9 _ _ hD8)), ?_⟩
  refine repA_of upd_same (by omega) fun H10 e1 s10 he1 => ?_
  refine ⟨sz rfl, fun e3 he3 => ?_⟩
  have k11 := same_new he3 (.tup [.str ""])
  have s811 := (k9.trans' s10).trans' k11
  refine ⟨_, rfl, m, .ref Pp, rfl, (md8.same s811).gP, _, _, rfl, .inl (SqL.of (s811 _ _ hP8)), ?_⟩
  refine repA_of upd_same (by omega) fun H12 e2 s12 he2 => ?_
  refine ⟨sz rfl, fun ee hee => ?_⟩
  have k13 := same_new hee (.tup [.ref e1, .ref e2])
  have s813 := (s811.trans' s12).trans' k13
  have bg2 : BgA (upd H12 ee (.tup [.ref e1, .ref e2])) ee ts.length ps.length := ⟨e1, e2, upd_same, by rw [← ltv]; exact k13 _ _ (s12 _ _ (k11 _ _ he1)), by rw [← lpw]; exact k13 _ _ he2⟩
  refine ⟨_, _, (bg.keep (Tups.of s813)).dp, bg2.dp, nB.shp (by decide), nB.shp (by decide), _, rfl, iteFd (by rw [eqv_dec nB.lay]; rfl) ?_⟩
  generalize upd H12 ee (HO.tup [V.ref e1, V.ref e2]) = H13 at *
  have ya13 := ya8.nl (NL.of s813)
  have md13 := md8.same s813
  have hy13 := s813 _ _ hy8
  have hD13 := s813 _ _ hD8
  refine ⟨_, rfl, y, dx4, fs4, rfl, hy13, y, ts, ps, rfl, ya13, ts.length, rfl, by omega, _, rfl, _, _, rfl, .inl (SqL.of hD13), rfl, _, rfl, iteFd (by rw [ltv]; simp) ?_⟩
  have s413 := (s46.trans' s68).trans' s813
  clear s813 s811 k13 k11 k9 s10 s12 bg2 bg he0 he1 he2 he3 hee
  -- sources
  obtain ⟨sv13, hS13, psv13⟩ := md13.st
  obtain ⟨pw13, hP13, ppw13⟩ := md13.pp
  have lpw13 := paired_len ppw13
  have lsv13 := paired_len psv13
  refine ⟨_, rfl, m, .ref Pp, rfl, md13.gP, _, rfl, ⟨_, SqL.of hP13⟩, fun D1 hD1 => lc_it walk_list (fun i H' => Same H13 H' ∧ ∃ tv, H' D1 = some (.lst tv) ∧ Paired (PrA H') tv ((ps.take i).map pb)) ⟨same_new hD1 _, [], upd_same, .nil⟩ (fun i H' _ z => SqL.of (z.1 _ _ hP13)) ?_ ?_⟩
  · rintro i x G1 G2 hi ⟨sm, tv', hd, pt⟩ ⟨rfl, hx⟩
    obtain ⟨pi, hpi, tp, rfl, htp⟩ := paired_get ppw13 hx
    have hil := lt_len hpi
    have hlt := paired_len pt
    refine ⟨rfl, tyI ⟨_, rfl, _, rfl, _, _, rfl, SqT.of (sm _ _ htp), nwe, fun q1 hq1 => ?_⟩⟩
    have k1 := same_new hq1 (.tup [.int pi.1, .int pi.2.1])
    have hd1 := k1 _ _ hd
    refine ⟨_, hd1, ?_, same_at (sm.trans' k1) hD1, tv' ++ [.ref q1], upd_same, ?_⟩
    · rw [List.length_map, List.length_take] at hlt
      exact Nat.lt_of_lt_of_le (show tv'.length < 100000 by omega) (by decide)
    · rw [← take_one _ hpi]
      exact paired_app (pr_all ((Tups.of k1).trans (tups_at hd1)) pt) (.cons ⟨q1, rfl, tups_at hd1 _ _ upd_same⟩ .nil)
  rintro H14 ⟨s14, tv14, hD14, pt14⟩
  rw [lpw13, List.take_of_length_le (Nat.le_refl _)] at pt14
  have smallT : ∀ l ∈ ps.map pb, l.1 ≤ 100 ∧ l.2 ≤ 100 := fun l hl => by
    obtain ⟨z, hz, rfl⟩ := List.mem_map.mp hl
    have := smP z hz
    exact ⟨this.1, this.2.1⟩
  have nSrc := lns_nice smallT (by rw [List.length_map]; omega)
  -- ends
  refine ⟨Nat.zero_le _, fun E1 hE1 => ?_⟩
  have kE := same_new hE1 (.lst [])
  have md14 := md13.same s14
  have hS14 := s14 _ _ hS13
  have psv14 := dat_all (KL.of s14) psv13
  have o2 : ∀ t ∈ ts, t.outs ≤ 2 := fun t ht => (yok.ok t ht).o2
  refine ⟨_, rfl, m, .ref S, rfl, (md14.same kE).gS, S, _, rfl, SqL.of (kE _ _ hS14), for_it walk_enum (fun i σ H' => ∃ (z7 z8 : Option V) (ev : List V), σ = [some (.ref p), some v, some (.ref m), some (.ref y), some (.ref D), some (.ref D1), some (.ref E1), z7, z8, none, none, none, none, none] ∧ Same H14 H' ∧ H' E1 = some (.lst ev) ∧ Paired (PrA H') ev ((linesFrom 0 (ts.take i)).filter fun l => !decide (l ∈ ps.map pb))) ?h0 (fun i σ H' _ ⟨_, _, _, _, z, _⟩ => SqL.of (z _ _ hS14)) ?hs ?hd⟩
  case h0 => exact ⟨_, _, [], rfl, kE, upd_same, .nil⟩
  case hs =>
    rintro i x σ G1 G2 hi ⟨z7, z8, ev, rfl, sm, hE, pev⟩ ⟨T0, i1, i2, rfl, hT0, rfl, hi1, hi2⟩
    obtain ⟨st, hst, a, L, wsx, rfl, ha, _, _, _⟩ := paired_get psv14 hi2
    have hil := lt_len hst
    obtain rfl : V.int (i : Nat) = i1 := by simpa using hi1
    have k0 := same_new hT0 (.tup [.int (i : Nat), .ref a])
    have ho := o2 st (List.mem_of_getElem? hst)
    have lev := paired_len pev
    have hm1 : i < 12 := by omega
    refine ⟨_, _, rfl, SqT.of upd_same, rfl, _, _, rfl, _, _, rfl, rfl, ?_⟩
    generalize hG3 : upd G1 T0 (HO.tup [V.int (i : Nat), V.ref a]) = G3 at *
    have sm3 : Same H14 G3 := sm.trans' k0
    have hE3 := k0 _ _ hE
    refine ⟨_, rfl, .inl ⟨rfl, _, SqL.of hE3⟩, _, rfl, _, _, _, _, rfl, rfl, SqT.of (sm3 _ _ ha), rfl, _, rfl, ?_, ?_, fun D2 hD2 => lc_it walk_range0 (fun j H' => Same G3 H' ∧ ∃ xs, H' D2 = some (.lst xs) ∧ xs.length ≤ j ∧ Paired (PrA H') xs (((List.range j).map fun k => (i, k)).filter fun l => !decide (l ∈ ps.map pb))) ⟨same_new hD2 _, [], upd_same, Nat.le_refl 0, .nil⟩ (fun _ _ _ _ => trivial) ?_ ?_⟩
    · omega
    · omega
    · rintro j x G4 G5 hj ⟨sm4, xs, hd4, lx, px⟩ ⟨rfl, rfl⟩
      have hj' : j < st.outs := by omega
      refine ⟨rfl, ⟨_, rfl, _, rfl, sz rfl, fun q1 hq1 => ⟨_, rfl, ?_⟩⟩⟩
      have k1 := same_new hq1 (.tup [.int (i : Nat), .int (j : Nat)])
      have s145 := (sm3.trans' sm4).trans' k1
      have lsm : ((i, j) : Nat × Nat).1 ≤ 100 ∧ ((i, j) : Nat × Nat).2 ≤ 100 := ⟨by show i ≤ 100; omega, by show j ≤ 100; omega⟩
      refine ⟨lnD (i, j), _, .tup (SqT.of upd_same) (.cons (.int _) (.cons (.int _) .nil)), .lst (SqL.of (s145 _ _ hD14)) (dpall (fun _ _ r => r.dp) (pr_all (Tups.of s145) pt14)), (ln_nice lsm).shp (by decide), nSrc.shp (by decide), _, rfl, ?_⟩
      rw [any_ln]
      have hd5 := k1 _ _ hd4
      by_cases hm : ((i, j) : Nat × Nat) ∈ ps.map pb
      · rw [decide_eq_true hm]
        refine iteF ⟨sm4.trans' k1, xs, hd5, by omega, ?_⟩
        rw [List.range_succ, List.map_append, List.filter_append, List.map_cons, List.filter_cons_of_neg (by simp [hm])]
        simpa using pr_all (Tups.of k1) px
      · rw [decide_eq_false hm]
        refine iteT ⟨_, rfl, _, rfl, sz rfl, fun q2 hq2 => ?_⟩
        have k2 := same_new hq2 (.tup [.int (i : Nat), .int (j : Nat)])
        have hd6 := k2 _ _ hd5
        refine ⟨_, hd6, ?_, same_at ((sm4.trans' k1).trans' k2) hD2, xs ++ [.ref q2], upd_same, ?_, ?_⟩
        · exact Nat.lt_of_lt_of_le (show xs.length < 100000 by omega) (by decide)
        · rw [List.length_append]
          exact Nat.succ_le_succ lx
        · rw [List.range_succ, List.map_append, List.filter_append, List.map_cons, List.filter_cons_of_pos (by simpa using hm)]
          exact paired_app (pr_all ((Tups.of (k1.trans' k2)).trans (tups_at hd6)) px) (.cons ⟨q2, rfl, tups_at hd6 _ _ upd_same⟩ .nil)
    · rintro G4 ⟨sm4, xs, hd4, lx, px⟩
      rw [Int.toNat_natCast] at px lx
      have hE4 := sm4 _ _ hE3
      have lle := lines_le (n := 0) (ts := ts.take i) fun t ht => o2 t (List.mem_of_mem_take ht)
      have lfl := List.length_filter_le (fun l => !decide (l ∈ ps.map pb)) (linesFrom 0 (ts.take i))
      rw [List.length_take] at lle
      refine ⟨E1, D2, ev, xs, rfl, rfl, hE4, hd4, ?_, ?_⟩
      · exact Nat.le_trans (show ev.length + xs.length ≤ 100000 by omega) (by decide)
      refine ⟨_, _, ev ++ xs, rfl, same_at (sm3.trans' sm4) hE1, upd_same, ?_⟩
      rw [lines_take hst, List.filter_append]
      exact paired_app (pr_all (((Tups.of k0).trans (Tups.of sm4)).trans (tups_at hE4)) pev) (pr_all (tups_at hE4) px)
  case hd =>
  rintro σ H15 ⟨z7, z8, ev, rfl, s15, hE15, pev⟩
  rw [lsv13, List.take_of_length_le (Nat.le_refl _)] at pev
  have pev : Paired (PrA H15) ev (exitsOf ts ps) := pev
  have lev := paired_len pev
  have s415 := (s413.trans' s14).trans' s15
  have ya15 := ya4.nl (NL.of s415)
  have md15 := md4.same s415
  have hy15 := s415 _ _ hy4
  have exS : ∀ l ∈ exitsOf ts ps, l.1 ≤ 100 ∧ l.2 ≤ 100 := fun l hl => line_small o2 (by omega) (List.mem_filter.mp hl).1
  have nE := lns_nice exS (by omega)
  refine ⟨_, rfl, y, dx4, fs4, rfl, hy15, y, ts, ps, rfl, ya15, fun pX esX hpX pesX => ?_⟩
  have k16 := same_new hpX (.lst esX)
  refine ⟨.ref pX, _, rfl, .lst (SqL.of upd_same) (dpall (fun _ _ r => r.dp) (pr_all (Tups.of k16) pesX)), nE.sh, nE.nd, Nat.le_trans nE.dep (by decide), nE.shown (by decide) (by decide), ?_⟩
  refine ⟨_, rfl, .ref E1, _, rfl, .lst (SqL.of (k16 _ _ hE15)) (dpall (fun _ _ r => r.dp) (pr_all (Tups.of k16) pev)), nE.sh, nE.nd, Nat.le_trans nE.dep (by decide), nE.shown (by decide) (by decide), rfl, _, rfl, iteFd (st_ne _ _ rfl) ?_⟩
  refine ⟨_, rfl, _, _, rfl, .inl (SqL.of (k16 _ _ hE15)), rfl, _, rfl, iteFd (by rw [lev, ex1]; rfl) ?_⟩
  -- lists that are told may be changed
  have s416 := s415.trans' k16
  generalize upd H15 pX (HO.lst esX) = H16 at *
  have ya16 := ya4.nl (NL.of s416)
  have hy16 := s416 _ _ hy4
  refine ⟨_, rfl, y, dx4, fs4, rfl, hy16, y, ts, ps, rfl, ya16, fun pA usA hpA pusA => ?_⟩
  refine ⟨.inl ⟨rfl, _, SqL.of upd_same⟩, pA, usA, rfl, rfl, upd_same, ?_⟩
  rw [upd_upd]
  have k17 := same_new hpA (.lst [])
  have s417 := s416.trans' k17
  generalize upd H16 pA (HO.lst []) = H17 at *
  have ya17 := ya4.nl (NL.of s417)
  have hy17 := s417 _ _ hy4
  refine ⟨_, rfl, y, dx4, fs4, rfl, hy17, y, ts, ps, rfl, ya17, fun pB wsB hpB pwsB => ?_⟩
  have lwB := paired_len pwsB
  rw [(srt_perm ps).length_eq] at lwB
  refine ⟨.inl ⟨rfl, _, SqL.of upd_same⟩, pB, wsB, .non, rfl, rfl, upd_same, ?_, ?_⟩
  · exact Nat.lt_of_lt_of_le (show wsB.length < 100000 by omega) (by decide)
  rw [upd_upd]
  have k18 := same_new hpB (.lst (wsB ++ [.non]))
  have s418 := s417.trans' k18
  generalize upd H17 pB (HO.lst (wsB ++ [V.non])) = H18 at *
  clear k17 k18 k16 hpA hpB hpX
  have md18 := md4.same s418
  obtain ⟨sv18, hS18, psv18⟩ := md18.st
  have lsv18 := paired_len psv18
  -- an own yard
  refine ⟨_, rfl, m, .ref S, rfl, md18.gS, _, rfl, ⟨_, SqL.of hS18⟩, fun D3 hD3 => lc_it walk_list (fun i H' => Same H18 H' ∧ ∃ us, H' D3 = some (.lst us) ∧ Paired (StnA C H') us (ts.take i)) ⟨same_new hD3 _, [], upd_same, .nil⟩ (fun i H' _ z => SqL.of (z.1 _ _ hS18)) ?_ ?_⟩
  · rintro i x G1 G2 hi ⟨sm, us', hd, pu⟩ ⟨rfl, hx⟩
    obtain ⟨st, hst, hdat⟩ := paired_get psv18 hx
    obtain ⟨a, L, wsx, rfl, ha, _, hL, pL⟩ := hdat.kl (KL.of sm)
    have hil := lt_len hst
    have lu := paired_len pu
    refine ⟨rfl, tyI ⟨_, rfl, _, _, _, _, rfl, rfl, SqT.of ha, rfl, _, rfl, _, _, _, _, rfl, rfl, SqT.of ha, rfl, _, rfl, _, _, _, _, rfl, rfl, SqT.of ha, rfl, ?_⟩⟩
    intro xo dxo hxo hdxo hneo
    have mm := mk_same (C := C) hxo hdxo
    refine ⟨xo, L, dxo, wsx, st, rfl, upd_same, mm _ _ hL, told_all mm (toldX_told pL), yok.ok st (List.mem_of_getElem? hst), fun G3 k3 stn => ⟨rfl, ?_⟩⟩
    have s3 := mk_after hxo mm k3
    have hd3 := s3 _ _ hd
    have nl3 := NL.at (o := .lst (us' ++ [.ref xo])) hd3
    refine ⟨_, hd3, ?_, same_at (sm.trans' s3) hD3, us' ++ [.ref xo], upd_same, ?_⟩
    · rw [List.length_take] at lu
      exact Nat.lt_of_lt_of_le (show us'.length < 100000 by omega) (by decide)
    · rw [List.take_succ, hst]
      exact paired_app (stn_all ((NL.of s3).trans nl3) pu) (.cons (stn.but2 nl3) .nil)
  rintro H19 ⟨s19, us19, hD19, pus19⟩
  rw [lsv18, List.take_of_length_le (Nat.le_refl _)] at pus19
  have md19 := md18.same s19
  obtain ⟨pw19, hP19, ppw19⟩ := md19.pp
  refine ⟨_, rfl, m, .ref Pp, rfl, md19.gP, ?_⟩
  intro o dxo ho hdxo hneo
  have mm := mk_same (C := CY) ho hdxo
  refine ⟨o, dxo, D3, Pp, us19, pw19, ts, ps, rfl, upd_same, mm _ _ hD19, stn_all (NL.of mm) pus19, mm _ _ hP19, pipe_all (Tups.of mm) ppw19, yok, fun H20 b20 yo20 => ⟨rfl, ?_⟩⟩
  have s1920 := mk_after ho mm b20
  have s420 := (s418.trans' s19).trans' s1920
  have ya20 := ya4.nl (NL.of s420)
  obtain ⟨dxY, fsY, hyY⟩ := ya20.at
  obtain ⟨dxO, fsO, hyO⟩ := yo20.at
  -- yard != own
  refine ⟨_, rfl, _, rfl, ⟨y, o, dxY, dxO, fsY, fsO, rfl, rfl, hyY, hyO, ts, ps, ya20, yo20, yok⟩, fun H21 x21 => ⟨_, rfl, iteF ?_⟩⟩
  have s21 : Same H20 H21 := fun b u e => x21 b u e
  have ht21 := ht4.keep (Tups.of (s420.trans' s21))
  have yo21 := yo20.nl (NL.of s21)
  have fin2 : ∀ {HX : Hp} {yx : Addr}, YdA CY C HX yx (finS (wst t)).1 (finS (wst t)).2 → YdA CY C HX yx ts ps := fun {HX yx} h => by
    rw [hst] at h
    exact h
  refine ⟨_, rfl, rfl, v, t, rfl, ht21, n9, sok, fun H22 y2 s22 ya22 => ?_⟩
  have ya22 := fin2 ya22
  have yo22 := yo21.nl (NL.of s22)
  obtain ⟨dx2, fs2, hy2⟩ := ya22.at
  obtain ⟨dxO2, fsO2, hyO2⟩ := yo22.at
  refine ⟨_, rfl, ⟨y2, o, dx2, dxO2, fs2, fsO2, rfl, rfl, hy2, hyO2, ts, ps, ya22, yo22, yok⟩, fun H23 x23 => ⟨_, rfl, iteF ?_⟩⟩
  have s23 : Same H22 H23 := fun b u e => x23 b u e
  have s2023 := (s21.trans' s22).trans' s23
  have ht23 := ht4.keep (Tups.of (s420.trans' s2023))
  -- the station for each node
  refine ⟨_, rfl, v, t, rfl, ht23, n9, by omega, fun H24 pN nv s24' hpN pnv => ?_⟩
  have lnv := paired_len pnv
  refine ⟨_, rfl, ⟨_, SqL.of hpN⟩, for_it walk_list (fun i σ H' => ∃ z10 : Option V, σ = [some (.ref p), some v, some (.ref m), some (.ref y), some (.ref D), some (.ref D1), some (.ref E1), z7, z8, some (.ref o), z10, none, none, none] ∧ Same H24 H') ⟨_, rfl, Same.refl _⟩ (fun i σ H' _ ⟨_, _, z⟩ => SqL.of (z _ _ hpN)) ?_ ?_⟩
  · rintro i x σ G1 G2 hi ⟨z10, rfl, sm⟩ ⟨rfl, hx⟩
    obtain ⟨u, hu, hxu⟩ := paired_get pnv hx
    obtain ⟨u1, u2, u3⟩ := own_mem (List.mem_of_getElem? hu)
    have uok := (stOf_ok u1 u2).1
    have nU := st_nice uok
    refine ⟨_, rfl, x, u, rfl, hxu.keep (Tups.of sm), u1, u2, by omega, fun G3 v3 g3 st3 => ?_⟩
    refine ⟨v3, stOf u, [], rfl, st3, uok, (fun a ha => nomatch ha), fun G4 v4 g4 dat4 => ?_⟩
    refine ⟨v4, _, rfl, dat4.dp, nU.sh, nU.nd, Nat.le_trans nU.dep (by decide), nU.shown (by decide) (by decide), ?_⟩
    refine ⟨_, rfl, x, u, [], rfl, hxu.keep (Tups.of ((sm.trans' g3).trans' g4)), u1, u2, (fun a ha => nomatch ha), fun G5 v5 g5 dat5 => ?_⟩
    refine ⟨v5, _, rfl, dat5.dp, nU.sh, nU.nd, Nat.le_trans nU.dep (by decide), nU.shown (by decide) (by decide), rfl, _, rfl, iteFd (st_ne _ _ rfl) ?_⟩
    exact ⟨_, rfl, ((sm.trans' g3).trans' g4).trans' g5⟩
  · rintro σ H25 ⟨z10, rfl, s25⟩
    have s425 := ((s420.trans' s2023).trans' s24').trans' s25
    have ht25 := ht4.keep (Tups.of s425)
    refine ⟨_, rfl, v, t, rfl, ht25, n9, sok, fun H26 y3 s26 ya26 => ?_⟩
    have ya26 := fin2 ya26
    have yo26 := yo20.nl (NL.of (((s2023.trans' s24').trans' s25).trans' s26))
    obtain ⟨dx3, fs3, hy3⟩ := ya26.at
    obtain ⟨dxO3, fsO3, hyO3⟩ := yo26.at
    refine ⟨_, rfl, ⟨y3, o, dx3, dxO3, fs3, fsO3, rfl, rfl, hy3, hyO3, ts, ps, ya26, yo26, yok⟩, fun H27 x27 => ?_⟩
    exact q4 _ ((s425.trans' s26).trans' fun b u e => x27 b u e)
end
end FY


set_option Elab.async false
set_option linter.all false
set_option maxRecDepth 100000
set_option maxHeartbeats 4000000
namespace FY
open PySem L2 FYR
theorem sqL_same {K : PySem.W.Frag} {H H' : Hp} {a : Addr} {xs : List V} (h : SqL K H a xs) (e : Same H H') : SqL K H' a xs :=
  h.elim (fun h => .inl (h.elim (fun h => .inl (e _ _ h)) fun ⟨o, h⟩ => .inr ⟨o, e _ _ h⟩)) fun h => .inr h
section
variable {P : Program} {w : World} {K : PySem.W.Frag} {mg : Str → Option Value} {base : Heap} {aS a1 a2 : Addr} {f : Addr} {fd : FuncData}
abbrev s_law : Stmt := top 80
abbrev N_law : List Str := ["_law_script", "_law_k"]
theorem sc_law : FnScope N_law ["_law_script"] (defScope s_law) := ⟨rfl, rfl, rfl, by decide +kernel, rfl, by decide +kernel, by decide +kernel⟩
theorem ok_law (F : Fun K "law" "law" s_law f fd) (T : Txt K mg aS a1 a2) (c__law_pot : C8.Cal P w K mg base 1 "_law_pot" (spPot K) []) (c__law_right : CalG P w K mg base 31 "_law_right" spLong) : FnG P w K mg base 32 f fd ["_law_script"] (spLaw K) := by
  refine fnG_of F sc_law (fun vs H Q E h => ?_) (fun cdv A outer s H vs Q E hgd' hr h => ?_)
  · obtain ⟨L, ns, rfl, _⟩ := h
    rfl
  obtain ⟨L, ns, rfl, hS, q⟩ := h
  have hgd : (A.deeper (PyProof.Rows.envOfC "law" (defScope s_law) s.heap.objs.size f cdv)).guards = some [] := hgd'
  refine ⟨_, (pss_one (ps_ret (pe_callB (kAll K rfl rfl) rfl T.b_all bt_all (pa_cons (pe_lc (own := [("_law_k", 1)]) rfl sc_law.nd (pi_range1 rfl T.b_range (pa_cons (pe_callB (call_max2 rfl) rfl T.b_max bt_max (pa_cons pe_int (pa_cons (pe_callB (call_min2 rfl) rfl T.b_min bt_min (pa_cons pe_int (pa_cons (pe_callB (kLen K rfl) rfl T.b_len bt_len (pa_cons (pv 0) pa_nil)) pa_nil))) pa_nil))) pa_nil)) (blkOk_by (N := N_law) (sc := defScope s_law) (by decide +kernel)) (fun _ _ _ _ _ => (pg_name (i := 1) sc_law.nd rfl (Or.inl rfl))) (fun _ _ _ _ _ => pts_nil) (fun _ _ _ _ _ => (pe_cG c__law_right hgd hr (by decide) rfl (pa_cons (C8.pe_c c__law_pot hr (by decide) rfl (pa_cons (pv 0) (pa_cons (pv 1) pa_nil))) pa_nil)))) pa_nil)))), ?_⟩
  refine ⟨_, rfl, _, _, rfl, .inl hS, _, _, rfl, _, _, rfl, ?_⟩
  obtain ⟨n, hn, hn2⟩ : ∃ n : Nat, (if (if ((ns.map V.int).length : Int) < 2 then ((ns.map V.int).length : Int) else 2) > 1 then (if ((ns.map V.int).length : Int) < 2 then ((ns.map V.int).length : Int) else 2) else 1) = (n : Int) ∧ n ≤ 2 := by
    refine ⟨((if (if ((ns.map V.int).length : Int) < 2 then ((ns.map V.int).length : Int) else 2) > 1 then (if ((ns.map V.int).length : Int) < 2 then ((ns.map V.int).length : Int) else 2) else 1)).toNat, ?_, ?_⟩ <;> split <;> split <;> omega
  refine ⟨_, rfl, ?_, ?_, fun D hD => lc_it walk_range (fun i H' => Same H H' ∧ H' D = some (.lst (List.replicate i (.bl true)))) ⟨same_new hD _, upd_same⟩ (fun _ _ _ _ => trivial) ?_ ?_⟩
  · rw [hn]; omega
  · rw [hn]; omega
  · rintro i x H1 H2 hi ⟨sm, hd⟩ ⟨rfl, hx⟩
    have hx : x = .int (i : Int) := by rw [hx]; exact congrArg V.int (Int.zero_add _)
    subst hx
    have hi2 : i < 2 := by rw [hn] at hi; omega
    refine ⟨rfl, tyI ⟨_, rfl, _, rfl, L, ns, _, rfl, sqL_same hS sm, by omega, by omega, fun H3 p s3 hp3 pt => ⟨p, rfl, pt, fun H4 k4 p4 => ?_⟩⟩⟩
    have hpH : H p = none := by
      cases z : H p with
      | none => rfl
      | some o => rw [sm _ _ z] at hp3; cases hp3
    have hDp : D ≠ p := fun z => by rw [← z, hd] at hp3; cases hp3
    have sm4 : Same H H4 := fun b o e => k4 b o (fun z => by rw [z, hpH] at e; cases e) (s3 _ _ (sm _ _ e))
    refine ⟨_, k4 _ _ hDp (s3 _ _ hd), ?_, same_at sm4 hD, ?_⟩
    · rw [List.length_replicate]
      exact Nat.lt_of_lt_of_le (show i < 100000 by omega) (by decide)
    · rw [upd_same, List.replicate_succ']
  · rintro H1 ⟨sm, hd⟩
    refine ⟨_, List.replicate _ true, rfl, SqL.of (by rw [hd, List.map_replicate]), ?_⟩
    rw [show ∀ m, (List.replicate m true).all id = true from fun m => by simp]
    exact q _
end
end FY


set_option Elab.async false
set_option linter.all false
set_option maxRecDepth 100000
set_option maxHeartbeats 4000000
namespace FY
open PySem L2 FYR
section
variable {P : Program} {w : World} {K : PySem.W.Frag} {mg : Str → Option Value} {base : Heap} {f : Addr} {fd : FuncData}
abbrev s_is_begin : Stmt := top 39
abbrev N_is_begin : List Str := ["yard", "value", "part", "standing", "station", "text"]
theorem sc_is_begin : FnScope N_is_begin ["yard", "value"] (defScope s_is_begin) := ⟨rfl, rfl, rfl, by decide +kernel, rfl, by decide +kernel, by decide +kernel⟩
theorem ok_is_begin (F : Fun K "is_begin" "is_begin" s_is_begin f fd) : FnOk P w K mg base CX0 1 f fd ["yard", "value"] spNever :=
  F.ok sc_is_begin (fun vs H Q E h => h.1) (fun cdv A outer s H vs Q E hr h => h.2.elim)
theorem kbn_compiled (F : Fun K "compiled" "compiled" s_compiled f fd) : KBn K fd ["term"] 0 ["term"] (fun _ ws => ws) (fun _ zs => zs) := by
  obtain ⟨oc, od, kV, doc, pm, an, cdv, ct, osl, rfl, lk, hcd⟩ := F.ex
  refine ⟨fun s us ws _ hu hw => ?_, fun _ r => r⟩
  match us, hu, ws, hw with
  | [], _, [a], _ => exact .of_eq rfl
end
theorem arr5 {n : Nat} (h : n ≤ 10) : n ≤ sizeLine := Nat.le_trans h (by decide)
theorem all_mk {l : PySem.W.OpenLaw} {w : World} {K : PySem.W.Frag} {h : Heap} {mg : Str → Option Value} {fa : Addr} (X : K.In h) (G : h.Ns mainGlobals mg) (hfa : mg "law" = some (.ref fa))
    {C CD CY : Addr}
    {f1 : Addr} {od1 an1 : Option Addr} {sl1 : Array (Option Value)} {oc1 kV1 dc1 pm1 cd1 ct1 : Value}
    {f2 : Addr} {od2 an2 : Option Addr} {sl2 : Array (Option Value)} {oc2 kV2 dc2 pm2 cd2 ct2 : Value}
    {f3 : Addr} {od3 an3 : Option Addr} {sl3 : Array (Option Value)} {oc3 kV3 dc3 pm3 cd3 ct3 : Value}
    {f4 : Addr} {od4 an4 : Option Addr} {sl4 : Array (Option Value)} {oc4 kV4 dc4 pm4 cd4 ct4 : Value}
    {f5 : Addr} {od5 an5 : Option Addr} {sl5 : Array (Option Value)} {oc5 kV5 dc5 pm5 cd5 ct5 : Value}
    {f6 : Addr} {od6 an6 : Option Addr} {sl6 : Array (Option Value)} {oc6 kV6 dc6 pm6 cd6 ct6 : Value}
    {f7 : Addr} {od7 an7 : Option Addr} {sl7 : Array (Option Value)} {oc7 kV7 dc7 pm7 cd7 ct7 : Value}
    {f8 : Addr} {od8 an8 : Option Addr} {sl8 : Array (Option Value)} {oc8 kV8 dc8 pm8 cd8 ct8 : Value}
    {f9 : Addr} {od9 an9 : Option Addr} {sl9 : Array (Option Value)} {oc9 kV9 dc9 pm9 cd9 ct9 : Value}
    {f10 : Addr} {od10 an10 : Option Addr} {sl10 : Array (Option Value)} {oc10 kV10 dc10 pm10 cd10 ct10 : Value}
    {f11 : Addr} {od11 an11 : Option Addr} {sl11 : Array (Option Value)} {oc11 kV11 dc11 pm11 cd11 ct11 : Value}
    {f12 : Addr} {od12 an12 : Option Addr} {sl12 : Array (Option Value)} {oc12 kV12 dc12 pm12 cd12 ct12 : Value}
    {f13 : Addr} {od13 an13 : Option Addr} {sl13 : Array (Option Value)} {oc13 kV13 dc13 pm13 cd13 ct13 : Value}
    {f14 : Addr} {od14 an14 : Option Addr} {sl14 : Array (Option Value)} {oc14 kV14 dc14 pm14 cd14 ct14 : Value}
    {f15 : Addr} {od15 an15 : Option Addr} {sl15 : Array (Option Value)} {oc15 kV15 dc15 pm15 cd15 ct15 : Value}
    {f16 : Addr} {od16 an16 : Option Addr} {sl16 : Array (Option Value)} {oc16 kV16 dc16 pm16 cd16 ct16 : Value}
    {f17 : Addr} {od17 an17 : Option Addr} {sl17 : Array (Option Value)} {oc17 kV17 dc17 pm17 cd17 ct17 : Value}
    {f18 : Addr} {od18 an18 : Option Addr} {sl18 : Array (Option Value)} {oc18 kV18 dc18 pm18 cd18 ct18 : Value}
    {f19 : Addr} {od19 an19 : Option Addr} {sl19 : Array (Option Value)} {oc19 kV19 dc19 pm19 cd19 ct19 : Value}
    {f20 : Addr} {od20 an20 : Option Addr} {sl20 : Array (Option Value)} {oc20 kV20 dc20 pm20 cd20 ct20 : Value}
    {f21 : Addr} {od21 an21 : Option Addr} {sl21 : Array (Option Value)} {oc21 kV21 dc21 pm21 cd21 ct21 : Value}
    {f22 : Addr} {od22 an22 : Option Addr} {sl22 : Array (Option Value)} {oc22 kV22 dc22 pm22 cd22 ct22 : Value}
    {f23 : Addr} {od23 an23 : Option Addr} {sl23 : Array (Option Value)} {oc23 kV23 dc23 pm23 cd23 ct23 : Value}
    {f24 : Addr} {od24 an24 : Option Addr} {sl24 : Array (Option Value)} {oc24 kV24 dc24 pm24 cd24 ct24 : Value}
    {f25 : Addr} {od25 an25 : Option Addr} {sl25 : Array (Option Value)} {oc25 kV25 dc25 pm25 cd25 ct25 : Value}
    {f26 : Addr} {od26 an26 : Option Addr} {sl26 : Array (Option Value)} {oc26 kV26 dc26 pm26 cd26 ct26 : Value}
    {f27 : Addr} {od27 an27 : Option Addr} {sl27 : Array (Option Value)} {oc27 kV27 dc27 pm27 cd27 ct27 : Value}
    {f28 : Addr} {od28 an28 : Option Addr} {sl28 : Array (Option Value)} {oc28 kV28 dc28 pm28 cd28 ct28 : Value}
    {f29 : Addr} {od29 an29 : Option Addr} {sl29 : Array (Option Value)} {oc29 kV29 dc29 pm29 cd29 ct29 : Value}
    {f30 : Addr} {od30 an30 : Option Addr} {sl30 : Array (Option Value)} {oc30 kV30 dc30 pm30 cd30 ct30 : Value}
    {f31 : Addr} {od31 an31 : Option Addr} {sl31 : Array (Option Value)} {oc31 kV31 dc31 pm31 cd31 ct31 : Value}
    {f32 : Addr} {od32 an32 : Option Addr} {sl32 : Array (Option Value)} {oc32 kV32 dc32 pm32 cd32 ct32 : Value}
    {f33 : Addr} {od33 an33 : Option Addr} {sl33 : Array (Option Value)} {oc33 kV33 dc33 pm33 cd33 ct33 : Value}
    {f34 : Addr} {od34 an34 : Option Addr} {sl34 : Array (Option Value)} {oc34 kV34 dc34 pm34 cd34 ct34 : Value}
    {f35 : Addr} {od35 an35 : Option Addr} {sl35 : Array (Option Value)} {oc35 kV35 dc35 pm35 cd35 ct35 : Value}
    {f36 : Addr} {od36 an36 : Option Addr} {sl36 : Array (Option Value)} {oc36 kV36 dc36 pm36 cd36 ct36 : Value}
    {f37 : Addr} {od37 an37 : Option Addr} {sl37 : Array (Option Value)} {oc37 kV37 dc37 pm37 cd37 ct37 : Value}
    {f38 : Addr} {od38 an38 : Option Addr} {sl38 : Array (Option Value)} {oc38 kV38 dc38 pm38 cd38 ct38 : Value}
    {f39 : Addr} {od39 an39 : Option Addr} {sl39 : Array (Option Value)} {oc39 kV39 dc39 pm39 cd39 ct39 : Value}
    {f40 : Addr} {od40 an40 : Option Addr} {sl40 : Array (Option Value)} {oc40 kV40 dc40 pm40 cd40 ct40 : Value}
    {f41 : Addr} {od41 an41 : Option Addr} {sl41 : Array (Option Value)} {oc41 kV41 dc41 pm41 cd41 ct41 : Value}
    {f42 : Addr} {od42 an42 : Option Addr} {sl42 : Array (Option Value)} {oc42 kV42 dc42 pm42 cd42 ct42 : Value}
    {fSi : Addr} {odSi anSi : Option Addr} {slSi : Array (Option Value)} {ocSi kVSi dcSi pmSi cdSi ctSi : Value}
    {pSins : Addr} {reSins : List Value}
    {fSins : Addr} {odSins anSins : Option Addr} {slSins : Array (Option Value)} {ocSins kVSins dcSins pmSins cdSins ctSins : Value}
    {pSouts : Addr} {reSouts : List Value}
    {fSouts : Addr} {odSouts anSouts : Option Addr} {slSouts : Array (Option Value)} {ocSouts kVSouts dcSouts pmSouts cdSouts ctSouts : Value}
    {fSst : Addr} {odSst anSst : Option Addr} {slSst : Array (Option Value)} {ocSst kVSst dcSst pmSst cdSst ctSst : Value}
    {fSeq : Addr} {odSeq anSeq : Option Addr} {slSeq : Array (Option Value)} {ocSeq kVSeq dcSeq pmSeq cdSeq ctSeq : Value}
    {fDi : Addr} {odDi anDi : Option Addr} {slDi : Array (Option Value)} {ocDi kVDi dcDi pmDi cdDi ctDi : Value}
    {fDadd : Addr} {odDadd anDadd : Option Addr} {slDadd : Array (Option Value)} {ocDadd kVDadd dcDadd pmDadd cdDadd ctDadd : Value}
    {fDcop : Addr} {odDcop anDcop : Option Addr} {slDcop : Array (Option Value)} {ocDcop kVDcop dcDcop pmDcop cdDcop ctDcop : Value}
    {fDwh : Addr} {odDwh anDwh : Option Addr} {slDwh : Array (Option Value)} {ocDwh kVDwh dcDwh pmDwh cdDwh ctDwh : Value}
    {fDpa : Addr} {odDpa anDpa : Option Addr} {slDpa : Array (Option Value)} {ocDpa kVDpa dcDpa pmDpa cdDpa ctDpa : Value}
    {fDma : Addr} {odDma anDma : Option Addr} {slDma : Array (Option Value)} {ocDma kVDma dcDma pmDma cdDma ctDma : Value}
    {fYi : Addr} {odYi anYi : Option Addr} {slYi : Array (Option Value)} {ocYi kVYi dcYi pmYi cdYi ctYi : Value}
    {pYs : Addr} {reYs : List Value}
    {fYs : Addr} {odYs anYs : Option Addr} {slYs : Array (Option Value)} {ocYs kVYs dcYs pmYs cdYs ctYs : Value}
    {pYp : Addr} {reYp : List Value}
    {fYp : Addr} {odYp anYp : Option Addr} {slYp : Array (Option Value)} {ocYp kVYp dcYp pmYp cdYp ctYp : Value}
    {pYe : Addr} {reYe : List Value}
    {fYe : Addr} {odYe anYe : Option Addr} {slYe : Array (Option Value)} {ocYe kVYe dcYe pmYe cdYe ctYe : Value}
    {pYb : Addr} {reYb : List Value}
    {fYb : Addr} {odYb anYb : Option Addr} {slYb : Array (Option Value)} {ocYb kVYb dcYb pmYb cdYb ctYb : Value}
    {fYl : Addr} {odYl anYl : Option Addr} {slYl : Array (Option Value)} {ocYl kVYl dcYl pmYl cdYl ctYl : Value}
    {fYeq : Addr} {odYeq anYeq : Option Addr} {slYeq : Array (Option Value)} {ocYeq kVYeq dcYeq pmYeq cdYeq ctYeq : Value}
    {TY : Addr} {ocT : Value} {odT : Option Addr} {nT : Nat} {slT : Array (Option Value)}
    {tME tMS : Tok}
    {aS : Addr} {nnSIGNS : Nat} {ddSIGNS : Option Addr} {ssSIGNS : Array (Option Value)} {tSIGNS0 tSIGNS1 : Tok}
    {aO1 : Addr} {nnOF_ONE : Nat} {ddOF_ONE : Option Addr} {ssOF_ONE : Array (Option Value)} {tOF_ONE0 tOF_ONE1 tOF_ONE2 tOF_ONE3 tOF_ONE4 : Tok}
    {aO2 : Addr} {nnOF_TWO : Nat} {ddOF_TWO : Option Addr} {ssOF_TWO : Array (Option Value)} {tOF_TWO0 tOF_TWO1 : Tok}
    {aT : Addr} {nnTWOS : Nat} {ddTWOS : Option Addr} {ssTWOS : Array (Option Value)} {tTWOS0 tTWOS1 tTWOS2 tTWOS3 : Tok}
    {tIN : Tok}
    {tLATE : Tok}
    {tBY : Tok}
    {tKEEP : Tok}
    {tTHEN : Tok}
    {tMOST_NODES : Tok}
    {tMOST_STANDINGS : Tok}
    {tMOST_GIVEN : Tok}
    {tMOST_TICKS : Tok}
    {aL : Addr} {esL : Array DictEntry} {nL : Nat} {u1 u2 u3 : Value}
    (g_Station : PySem.W.nsIn K mainGlobals "Station" = some (some (.ref C)))
    (g_Draft : PySem.W.nsIn K mainGlobals "Draft" = some (some (.ref CD)))
    (g_Yard : PySem.W.nsIn K mainGlobals "Yard" = some (some (.ref CY)))
    (a1 : PySem.W.nsIn K mainGlobals "is_integer" = some (some (.ref f1)))
    (l1 : K.lookup f1 = some ⟨oc1, od1, .func (PySem.W.fnOf "is_integer" "is_integer" (defArgs s_is_integer) (defBody s_is_integer) (defScope s_is_integer) .none kV1 dc1 pm1 an1 cd1 ct1), sl1⟩)
    (c1 : PySem.W.codeIn K cd1 "is_integer" = true)
    (k1 : PySem.W.keepIn K (.ref f1) = true)
    (a2 : PySem.W.nsIn K mainGlobals "is_count" = some (some (.ref f2)))
    (l2 : K.lookup f2 = some ⟨oc2, od2, .func (PySem.W.fnOf "is_count" "is_count" (defArgs s_is_count) (defBody s_is_count) (defScope s_is_count) .none kV2 dc2 pm2 an2 cd2 ct2), sl2⟩)
    (c2 : PySem.W.codeIn K cd2 "is_count" = true)
    (k2 : PySem.W.keepIn K (.ref f2) = true)
    (a3 : PySem.W.nsIn K mainGlobals "is_below" = some (some (.ref f3)))
    (l3 : K.lookup f3 = some ⟨oc3, od3, .func (PySem.W.fnOf "is_below" "is_below" (defArgs s_is_below) (defBody s_is_below) (defScope s_is_below) .none kV3 dc3 pm3 an3 cd3 ct3), sl3⟩)
    (c3 : PySem.W.codeIn K cd3 "is_below" = true)
    (k3 : PySem.W.keepIn K (.ref f3) = true)
    (a4 : PySem.W.nsIn K mainGlobals "is_sign" = some (some (.ref f4)))
    (l4 : K.lookup f4 = some ⟨oc4, od4, .func (PySem.W.fnOf "is_sign" "is_sign" (defArgs s_is_sign) (defBody s_is_sign) (defScope s_is_sign) .none kV4 dc4 pm4 an4 cd4 ct4), sl4⟩)
    (c4 : PySem.W.codeIn K cd4 "is_sign" = true)
    (k4 : PySem.W.keepIn K (.ref f4) = true)
    (a5 : PySem.W.nsIn K mainGlobals "is_text" = some (some (.ref f5)))
    (l5 : K.lookup f5 = some ⟨oc5, od5, .func (PySem.W.fnOf "is_text" "is_text" (defArgs s_is_text) (defBody s_is_text) (defScope s_is_text) .none kV5 dc5 pm5 an5 cd5 ct5), sl5⟩)
    (c5 : PySem.W.codeIn K cd5 "is_text" = true)
    (k5 : PySem.W.keepIn K (.ref f5) = true)
    (a6 : PySem.W.nsIn K mainGlobals "is_list" = some (some (.ref f6)))
    (l6 : K.lookup f6 = some ⟨oc6, od6, .func (PySem.W.fnOf "is_list" "is_list" (defArgs s_is_list) (defBody s_is_list) (defScope s_is_list) .none kV6 dc6 pm6 an6 cd6 ct6), sl6⟩)
    (c6 : PySem.W.codeIn K cd6 "is_list" = true)
    (k6 : PySem.W.keepIn K (.ref f6) = true)
    (a7 : PySem.W.nsIn K mainGlobals "is_text_of" = some (some (.ref f7)))
    (l7 : K.lookup f7 = some ⟨oc7, od7, .func (PySem.W.fnOf "is_text_of" "is_text_of" (defArgs s_is_text_of) (defBody s_is_text_of) (defScope s_is_text_of) .none kV7 dc7 pm7 an7 cd7 ct7), sl7⟩)
    (c7 : PySem.W.codeIn K cd7 "is_text_of" = true)
    (k7 : PySem.W.keepIn K (.ref f7) = true)
    (a8 : PySem.W.nsIn K mainGlobals "is_row" = some (some (.ref f8)))
    (l8 : K.lookup f8 = some ⟨oc8, od8, .func (PySem.W.fnOf "is_row" "is_row" (defArgs s_is_row) (defBody s_is_row) (defScope s_is_row) .none kV8 dc8 pm8 an8 cd8 ct8), sl8⟩)
    (c8 : PySem.W.codeIn K cd8 "is_row" = true)
    (k8 : PySem.W.keepIn K (.ref f8) = true)
    (a9 : PySem.W.nsIn K mainGlobals "are_read" = some (some (.ref f9)))
    (l9 : K.lookup f9 = some ⟨oc9, od9, .func (PySem.W.fnOf "are_read" "are_read" (defArgs s_are_read) (defBody s_are_read) (defScope s_are_read) .none kV9 dc9 pm9 an9 cd9 ct9), sl9⟩)
    (c9 : PySem.W.codeIn K cd9 "are_read" = true)
    (k9 : PySem.W.keepIn K (.ref f9) = true)
    (a10 : PySem.W.nsIn K mainGlobals "is_standing_told" = some (some (.ref f10)))
    (l10 : K.lookup f10 = some ⟨oc10, od10, .func (PySem.W.fnOf "is_standing_told" "is_standing_told" (defArgs s_is_standing_told) (defBody s_is_standing_told) (defScope s_is_standing_told) .none kV10 dc10 pm10 an10 cd10 ct10), sl10⟩)
    (c10 : PySem.W.codeIn K cd10 "is_standing_told" = true)
    (k10 : PySem.W.keepIn K (.ref f10) = true)
    (a11 : PySem.W.nsIn K mainGlobals "want_stations" = some (some (.ref f11)))
    (l11 : K.lookup f11 = some ⟨oc11, od11, .func (PySem.W.fnOf "want_stations" "want_stations" (defArgs s_want_stations) (defBody s_want_stations) (defScope s_want_stations) .none kV11 dc11 pm11 an11 cd11 ct11), sl11⟩)
    (c11 : PySem.W.codeIn K cd11 "want_stations" = true)
    (k11 : PySem.W.keepIn K (.ref f11) = true)
    (a12 : PySem.W.nsIn K mainGlobals "is_pipe" = some (some (.ref f12)))
    (l12 : K.lookup f12 = some ⟨oc12, od12, .func (PySem.W.fnOf "is_pipe" "is_pipe" (defArgs s_is_pipe) (defBody s_is_pipe) (defScope s_is_pipe) .none kV12 dc12 pm12 an12 cd12 ct12), sl12⟩)
    (c12 : PySem.W.codeIn K cd12 "is_pipe" = true)
    (k12 : PySem.W.keepIn K (.ref f12) = true)
    (a13 : PySem.W.nsIn K mainGlobals "want_pipes" = some (some (.ref f13)))
    (l13 : K.lookup f13 = some ⟨oc13, od13, .func (PySem.W.fnOf "want_pipes" "want_pipes" (defArgs s_want_pipes) (defBody s_want_pipes) (defScope s_want_pipes) .none kV13 dc13 pm13 an13 cd13 ct13), sl13⟩)
    (c13 : PySem.W.codeIn K cd13 "want_pipes" = true)
    (k13 : PySem.W.keepIn K (.ref f13) = true)
    (a14 : PySem.W.nsIn K mainGlobals "free_lines" = some (some (.ref f14)))
    (l14 : K.lookup f14 = some ⟨oc14, od14, .func (PySem.W.fnOf "free_lines" "free_lines" (defArgs s_free_lines) (defBody s_free_lines) (defScope s_free_lines) .none kV14 dc14 pm14 an14 cd14 ct14), sl14⟩)
    (c14 : PySem.W.codeIn K cd14 "free_lines" = true)
    (k14 : PySem.W.keepIn K (.ref f14) = true)
    (a15 : PySem.W.nsIn K mainGlobals "is_begin" = some (some (.ref f15)))
    (l15 : K.lookup f15 = some ⟨oc15, od15, .func (PySem.W.fnOf "is_begin" "is_begin" (defArgs s_is_begin) (defBody s_is_begin) (defScope s_is_begin) .none kV15 dc15 pm15 an15 cd15 ct15), sl15⟩)
    (c15 : PySem.W.codeIn K cd15 "is_begin" = true)
    (k15 : PySem.W.keepIn K (.ref f15) = true)
    (a16 : PySem.W.nsIn K mainGlobals "parts_of" = some (some (.ref f16)))
    (l16 : K.lookup f16 = some ⟨oc16, od16, .func (PySem.W.fnOf "parts_of" "parts_of" (defArgs s_parts_of) (defBody s_parts_of) (defScope s_parts_of) .none kV16 dc16 pm16 an16 cd16 ct16), sl16⟩)
    (c16 : PySem.W.codeIn K cd16 "parts_of" = true)
    (k16 : PySem.W.keepIn K (.ref f16) = true)
    (a17 : PySem.W.nsIn K mainGlobals "has_shape" = some (some (.ref f17)))
    (l17 : K.lookup f17 = some ⟨oc17, od17, .func (PySem.W.fnOf "has_shape" "has_shape" (defArgs s_has_shape) (defBody s_has_shape) (defScope s_has_shape) .none kV17 dc17 pm17 an17 cd17 ct17), sl17⟩)
    (c17 : PySem.W.codeIn K cd17 "has_shape" = true)
    (k17 : PySem.W.keepIn K (.ref f17) = true)
    (a18 : PySem.W.nsIn K mainGlobals "is_term" = some (some (.ref f18)))
    (l18 : K.lookup f18 = some ⟨oc18, od18, .func (PySem.W.fnOf "is_term" "is_term" (defArgs s_is_term) (defBody s_is_term) (defScope s_is_term) .none kV18 dc18 pm18 an18 cd18 ct18), sl18⟩)
    (c18 : PySem.W.codeIn K cd18 "is_term" = true)
    (k18 : PySem.W.keepIn K (.ref f18) = true)
    (a19 : PySem.W.nsIn K mainGlobals "want_term" = some (some (.ref f19)))
    (l19 : K.lookup f19 = some ⟨oc19, od19, .func (PySem.W.fnOf "want_term" "want_term" (defArgs s_want_term) (defBody s_want_term) (defScope s_want_term) .none kV19 dc19 pm19 an19 cd19 ct19), sl19⟩)
    (c19 : PySem.W.codeIn K cd19 "want_term" = true)
    (k19 : PySem.W.keepIn K (.ref f19) = true)
    (a20 : PySem.W.nsIn K mainGlobals "row" = some (some (.ref f20)))
    (l20 : K.lookup f20 = some ⟨oc20, od20, .func (PySem.W.fnOf "row" "row" (defArgs s_row) (defBody s_row) (defScope s_row) .none kV20 dc20 pm20 an20 cd20 ct20), sl20⟩)
    (c20 : PySem.W.codeIn K cd20 "row" = true)
    (k20 : PySem.W.keepIn K (.ref f20) = true)
    (a21 : PySem.W.nsIn K mainGlobals "kept" = some (some (.ref f21)))
    (l21 : K.lookup f21 = some ⟨oc21, od21, .func (PySem.W.fnOf "kept" "kept" (defArgs s_kept) (defBody s_kept) (defScope s_kept) .none kV21 dc21 pm21 an21 cd21 ct21), sl21⟩)
    (c21 : PySem.W.codeIn K cd21 "kept" = true)
    (k21 : PySem.W.keepIn K (.ref f21) = true)
    (a22 : PySem.W.nsIn K mainGlobals "late_rows" = some (some (.ref f22)))
    (l22 : K.lookup f22 = some ⟨oc22, od22, .func (PySem.W.fnOf "late_rows" "late_rows" (defArgs s_late_rows) (defBody s_late_rows) (defScope s_late_rows) .none kV22 dc22 pm22 an22 cd22 ct22), sl22⟩)
    (c22 : PySem.W.codeIn K cd22 "late_rows" = true)
    (k22 : PySem.W.keepIn K (.ref f22) = true)
    (a23 : PySem.W.nsIn K mainGlobals "rows_of" = some (some (.ref f23)))
    (l23 : K.lookup f23 = some ⟨oc23, od23, .func (PySem.W.fnOf "rows_of" "rows_of" (defArgs s_rows_of) (defBody s_rows_of) (defScope s_rows_of) .none kV23 dc23 pm23 an23 cd23 ct23), sl23⟩)
    (c23 : PySem.W.codeIn K cd23 "rows_of" = true)
    (k23 : PySem.W.keepIn K (.ref f23) = true)
    (a24 : PySem.W.nsIn K mainGlobals "one_way" = some (some (.ref f24)))
    (l24 : K.lookup f24 = some ⟨oc24, od24, .func (PySem.W.fnOf "one_way" "one_way" (defArgs s_one_way) (defBody s_one_way) (defScope s_one_way) .none kV24 dc24 pm24 an24 cd24 ct24), sl24⟩)
    (c24 : PySem.W.codeIn K cd24 "one_way" = true)
    (k24 : PySem.W.keepIn K (.ref f24) = true)
    (a25 : PySem.W.nsIn K mainGlobals "station_of" = some (some (.ref f25)))
    (l25 : K.lookup f25 = some ⟨oc25, od25, .func (PySem.W.fnOf "station_of" "station_of" (defArgs s_station_of) (defBody s_station_of) (defScope s_station_of) .none kV25 dc25 pm25 an25 cd25 ct25), sl25⟩)
    (c25 : PySem.W.codeIn K cd25 "station_of" = true)
    (k25 : PySem.W.keepIn K (.ref f25) = true)
    (a26 : PySem.W.nsIn K mainGlobals "station_for" = some (some (.ref f26)))
    (l26 : K.lookup f26 = some ⟨oc26, od26, .func (PySem.W.fnOf "station_for" "station_for" (defArgs s_station_for) (defBody s_station_for) (defScope s_station_for) .none kV26 dc26 pm26 an26 cd26 ct26), sl26⟩)
    (c26 : PySem.W.codeIn K cd26 "station_for" = true)
    (k26 : PySem.W.keepIn K (.ref f26) = true)
    (a27 : PySem.W.nsIn K mainGlobals "outer_ins" = some (some (.ref f27)))
    (l27 : K.lookup f27 = some ⟨oc27, od27, .func (PySem.W.fnOf "outer_ins" "outer_ins" (defArgs s_outer_ins) (defBody s_outer_ins) (defScope s_outer_ins) .none kV27 dc27 pm27 an27 cd27 ct27), sl27⟩)
    (c27 : PySem.W.codeIn K cd27 "outer_ins" = true)
    (k27 : PySem.W.keepIn K (.ref f27) = true)
    (a28 : PySem.W.nsIn K mainGlobals "compiled" = some (some (.ref f28)))
    (l28 : K.lookup f28 = some ⟨oc28, od28, .func (PySem.W.fnOf "compiled" "compiled" (defArgs s_compiled) (defBody s_compiled) (defScope s_compiled) .none kV28 dc28 pm28 an28 cd28 ct28), sl28⟩)
    (c28 : PySem.W.codeIn K cd28 "compiled" = true)
    (k28 : PySem.W.keepIn K (.ref f28) = true)
    (a29 : PySem.W.nsIn K mainGlobals "_law_pot" = some (some (.ref f29)))
    (l29 : K.lookup f29 = some ⟨oc29, od29, .func (PySem.W.fnOf "_law_pot" "_law_pot" (defArgs s_law_pot) (defBody s_law_pot) (defScope s_law_pot) .none kV29 dc29 pm29 an29 cd29 ct29), sl29⟩)
    (c29 : PySem.W.codeIn K cd29 "_law_pot" = true)
    (k29 : PySem.W.keepIn K (.ref f29) = true)
    (a30 : PySem.W.nsIn K mainGlobals "_law_draw" = some (some (.ref f30)))
    (l30 : K.lookup f30 = some ⟨oc30, od30, .func (PySem.W.fnOf "_law_draw" "_law_draw" (defArgs s_law_draw) (defBody s_law_draw) (defScope s_law_draw) .none kV30 dc30 pm30 an30 cd30 ct30), sl30⟩)
    (c30 : PySem.W.codeIn K cd30 "_law_draw" = true)
    (k30 : PySem.W.keepIn K (.ref f30) = true)
    (a31 : PySem.W.nsIn K mainGlobals "_law_pick" = some (some (.ref f31)))
    (l31 : K.lookup f31 = some ⟨oc31, od31, .func (PySem.W.fnOf "_law_pick" "_law_pick" (defArgs s_law_pick) (defBody s_law_pick) (defScope s_law_pick) .none kV31 dc31 pm31 an31 cd31 ct31), sl31⟩)
    (c31 : PySem.W.codeIn K cd31 "_law_pick" = true)
    (k31 : PySem.W.keepIn K (.ref f31) = true)
    (a32 : PySem.W.nsIn K mainGlobals "_law_term" = some (some (.ref f32)))
    (l32 : K.lookup f32 = some ⟨oc32, od32, .func (PySem.W.fnOf "_law_term" "_law_term" (defArgs s_law_term) (defBody s_law_term) (defScope s_law_term) .none kV32 dc32 pm32 an32 cd32 ct32), sl32⟩)
    (c32 : PySem.W.codeIn K cd32 "_law_term" = true)
    (k32 : PySem.W.keepIn K (.ref f32) = true)
    (a33 : PySem.W.nsIn K mainGlobals "_law_station" = some (some (.ref f33)))
    (l33 : K.lookup f33 = some ⟨oc33, od33, .func (PySem.W.fnOf "_law_station" "_law_station" (defArgs s_law_station) (defBody s_law_station) (defScope s_law_station) .none kV33 dc33 pm33 an33 cd33 ct33), sl33⟩)
    (c33 : PySem.W.codeIn K cd33 "_law_station" = true)
    (k33 : PySem.W.keepIn K (.ref f33) = true)
    (a34 : PySem.W.nsIn K mainGlobals "_law_outer" = some (some (.ref f34)))
    (l34 : K.lookup f34 = some ⟨oc34, od34, .func (PySem.W.fnOf "_law_outer" "_law_outer" (defArgs s_law_outer) (defBody s_law_outer) (defScope s_law_outer) .none kV34 dc34 pm34 an34 cd34 ct34), sl34⟩)
    (c34 : PySem.W.codeIn K cd34 "_law_outer" = true)
    (k34 : PySem.W.keepIn K (.ref f34) = true)
    (a35 : PySem.W.nsIn K mainGlobals "_law_put" = some (some (.ref f35)))
    (l35 : K.lookup f35 = some ⟨oc35, od35, .func (PySem.W.fnOf "_law_put" "_law_put" (defArgs s_law_put) (defBody s_law_put) (defScope s_law_put) .none kV35 dc35 pm35 an35 cd35 ct35), sl35⟩)
    (c35 : PySem.W.codeIn K cd35 "_law_put" = true)
    (k35 : PySem.W.keepIn K (.ref f35) = true)
    (a36 : PySem.W.nsIn K mainGlobals "_law_node" = some (some (.ref f36)))
    (l36 : K.lookup f36 = some ⟨oc36, od36, .func (PySem.W.fnOf "_law_node" "_law_node" (defArgs s_law_node) (defBody s_law_node) (defScope s_law_node) .none kV36 dc36 pm36 an36 cd36 ct36), sl36⟩)
    (c36 : PySem.W.codeIn K cd36 "_law_node" = true)
    (k36 : PySem.W.keepIn K (.ref f36) = true)
    (a37 : PySem.W.nsIn K mainGlobals "_law_built" = some (some (.ref f37)))
    (l37 : K.lookup f37 = some ⟨oc37, od37, .func (PySem.W.fnOf "_law_built" "_law_built" (defArgs s_law_built) (defBody s_law_built) (defScope s_law_built) .none kV37 dc37 pm37 an37 cd37 ct37), sl37⟩)
    (c37 : PySem.W.codeIn K cd37 "_law_built" = true)
    (k37 : PySem.W.keepIn K (.ref f37) = true)
    (a38 : PySem.W.nsIn K mainGlobals "_law_compiled" = some (some (.ref f38)))
    (l38 : K.lookup f38 = some ⟨oc38, od38, .func (PySem.W.fnOf "_law_compiled" "_law_compiled" (defArgs s_law_compiled) (defBody s_law_compiled) (defScope s_law_compiled) .none kV38 dc38 pm38 an38 cd38 ct38), sl38⟩)
    (c38 : PySem.W.codeIn K cd38 "_law_compiled" = true)
    (k38 : PySem.W.keepIn K (.ref f38) = true)
    (a39 : PySem.W.nsIn K mainGlobals "_law_own_nodes" = some (some (.ref f39)))
    (l39 : K.lookup f39 = some ⟨oc39, od39, .func (PySem.W.fnOf "_law_own_nodes" "_law_own_nodes" (defArgs s_law_own_nodes) (defBody s_law_own_nodes) (defScope s_law_own_nodes) .none kV39 dc39 pm39 an39 cd39 ct39), sl39⟩)
    (c39 : PySem.W.codeIn K cd39 "_law_own_nodes" = true)
    (k39 : PySem.W.keepIn K (.ref f39) = true)
    (a40 : PySem.W.nsIn K mainGlobals "_law_shown" = some (some (.ref f40)))
    (l40 : K.lookup f40 = some ⟨oc40, od40, .func (PySem.W.fnOf "_law_shown" "_law_shown" (defArgs s_law_shown) (defBody s_law_shown) (defScope s_law_shown) .none kV40 dc40 pm40 an40 cd40 ct40), sl40⟩)
    (c40 : PySem.W.codeIn K cd40 "_law_shown" = true)
    (k40 : PySem.W.keepIn K (.ref f40) = true)
    (a41 : PySem.W.nsIn K mainGlobals "_law_right" = some (some (.ref f41)))
    (l41 : K.lookup f41 = some ⟨oc41, od41, .func (PySem.W.fnOf "_law_right" "_law_right" (defArgs s_law_right) (defBody s_law_right) (defScope s_law_right) .none kV41 dc41 pm41 an41 cd41 ct41), sl41⟩)
    (c41 : PySem.W.codeIn K cd41 "_law_right" = true)
    (k41 : PySem.W.keepIn K (.ref f41) = true)
    (a42 : PySem.W.nsIn K mainGlobals "law" = some (some (.ref f42)))
    (l42 : K.lookup f42 = some ⟨oc42, od42, .func (PySem.W.fnOf "law" "law" (defArgs s_law) (defBody s_law) (defScope s_law) .none kV42 dc42 pm42 an42 cd42 ct42), sl42⟩)
    (c42 : PySem.W.codeIn K cd42 "law" = true)
    (k42 : PySem.W.keepIn K (.ref f42) = true)
    (aSi : PySem.W.findIn K (.ref C) "__init__" = some (some (.ref fSi)))
    (iSi : PySem.W.isFn K (.ref fSi) = true)
    (lSi : K.lookup fSi = some ⟨ocSi, odSi, .func (PySem.W.fnOf "__init__" "Station.__init__" (defArgs s_Station___init__) (defBody s_Station___init__) (defScope s_Station___init__) .none kVSi dcSi pmSi anSi cdSi ctSi), slSi⟩)
    (cSi : PySem.W.codeIn K cdSi "Station.__init__" = true)
    (kSi : PySem.W.keepIn K (.ref fSi) = true)
    (aSins : PySem.W.findIn K (.ref C) "ins" = some (some (.ref pSins)))
    (gSins : PySem.W.specialIn K (.ref pSins) "__get__" = some (some (.builtin "property.__get__")))
    (tSins : PySem.W.takesIn K (.ref pSins) = some true)
    (rSins : PySem.W.recIn K pSins "property" = some (.ref fSins :: reSins))
    (lSins : K.lookup fSins = some ⟨ocSins, odSins, .func (PySem.W.fnOf "ins" "Station.ins" (defArgs s_Station_ins) (defBody s_Station_ins) (defScope s_Station_ins) .none kVSins dcSins pmSins anSins cdSins ctSins), slSins⟩)
    (cSins : PySem.W.codeIn K cdSins "Station.ins" = true)
    (kSins : PySem.W.keepIn K (.ref fSins) = true)
    (aSouts : PySem.W.findIn K (.ref C) "outs" = some (some (.ref pSouts)))
    (gSouts : PySem.W.specialIn K (.ref pSouts) "__get__" = some (some (.builtin "property.__get__")))
    (tSouts : PySem.W.takesIn K (.ref pSouts) = some true)
    (rSouts : PySem.W.recIn K pSouts "property" = some (.ref fSouts :: reSouts))
    (lSouts : K.lookup fSouts = some ⟨ocSouts, odSouts, .func (PySem.W.fnOf "outs" "Station.outs" (defArgs s_Station_outs) (defBody s_Station_outs) (defScope s_Station_outs) .none kVSouts dcSouts pmSouts anSouts cdSouts ctSouts), slSouts⟩)
    (cSouts : PySem.W.codeIn K cdSouts "Station.outs" = true)
    (kSouts : PySem.W.keepIn K (.ref fSouts) = true)
    (aSst : PySem.W.findIn K (.ref C) "standings" = some (some (.ref fSst)))
    (iSst : PySem.W.isFn K (.ref fSst) = true)
    (lSst : K.lookup fSst = some ⟨ocSst, odSst, .func (PySem.W.fnOf "standings" "Station.standings" (defArgs s_Station_standings) (defBody s_Station_standings) (defScope s_Station_standings) .none kVSst dcSst pmSst anSst cdSst ctSst), slSst⟩)
    (cSst : PySem.W.codeIn K cdSst "Station.standings" = true)
    (kSst : PySem.W.keepIn K (.ref fSst) = true)
    (aSeq : PySem.W.findIn K (.ref C) "__eq__" = some (some (.ref fSeq)))
    (iSeq : PySem.W.isFn K (.ref fSeq) = true)
    (lSeq : K.lookup fSeq = some ⟨ocSeq, odSeq, .func (PySem.W.fnOf "__eq__" "Station.__eq__" (defArgs s_Station___eq__) (defBody s_Station___eq__) (defScope s_Station___eq__) .none kVSeq dcSeq pmSeq anSeq cdSeq ctSeq), slSeq⟩)
    (cSeq : PySem.W.codeIn K cdSeq "Station.__eq__" = true)
    (kSeq : PySem.W.keepIn K (.ref fSeq) = true)
    (aDi : PySem.W.findIn K (.ref CD) "__init__" = some (some (.ref fDi)))
    (iDi : PySem.W.isFn K (.ref fDi) = true)
    (lDi : K.lookup fDi = some ⟨ocDi, odDi, .func (PySem.W.fnOf "__init__" "Draft.__init__" (defArgs s_Draft___init__) (defBody s_Draft___init__) (defScope s_Draft___init__) .none kVDi dcDi pmDi anDi cdDi ctDi), slDi⟩)
    (cDi : PySem.W.codeIn K cdDi "Draft.__init__" = true)
    (kDi : PySem.W.keepIn K (.ref fDi) = true)
    (aDadd : PySem.W.findIn K (.ref CD) "add" = some (some (.ref fDadd)))
    (iDadd : PySem.W.isFn K (.ref fDadd) = true)
    (lDadd : K.lookup fDadd = some ⟨ocDadd, odDadd, .func (PySem.W.fnOf "add" "Draft.add" (defArgs s_Draft_add) (defBody s_Draft_add) (defScope s_Draft_add) .none kVDadd dcDadd pmDadd anDadd cdDadd ctDadd), slDadd⟩)
    (cDadd : PySem.W.codeIn K cdDadd "Draft.add" = true)
    (kDadd : PySem.W.keepIn K (.ref fDadd) = true)
    (aDcop : PySem.W.findIn K (.ref CD) "copies" = some (some (.ref fDcop)))
    (iDcop : PySem.W.isFn K (.ref fDcop) = true)
    (lDcop : K.lookup fDcop = some ⟨ocDcop, odDcop, .func (PySem.W.fnOf "copies" "Draft.copies" (defArgs s_Draft_copies) (defBody s_Draft_copies) (defScope s_Draft_copies) .none kVDcop dcDcop pmDcop anDcop cdDcop ctDcop), slDcop⟩)
    (cDcop : PySem.W.codeIn K cdDcop "Draft.copies" = true)
    (kDcop : PySem.W.keepIn K (.ref fDcop) = true)
    (aDwh : PySem.W.findIn K (.ref CD) "whole" = some (some (.ref fDwh)))
    (iDwh : PySem.W.isFn K (.ref fDwh) = true)
    (lDwh : K.lookup fDwh = some ⟨ocDwh, odDwh, .func (PySem.W.fnOf "whole" "Draft.whole" (defArgs s_Draft_whole) (defBody s_Draft_whole) (defScope s_Draft_whole) .none kVDwh dcDwh pmDwh anDwh cdDwh ctDwh), slDwh⟩)
    (cDwh : PySem.W.codeIn K cdDwh "Draft.whole" = true)
    (kDwh : PySem.W.keepIn K (.ref fDwh) = true)
    (aDpa : PySem.W.findIn K (.ref CD) "part" = some (some (.ref fDpa)))
    (iDpa : PySem.W.isFn K (.ref fDpa) = true)
    (lDpa : K.lookup fDpa = some ⟨ocDpa, odDpa, .func (PySem.W.fnOf "part" "Draft.part" (defArgs s_Draft_part) (defBody s_Draft_part) (defScope s_Draft_part) .none kVDpa dcDpa pmDpa anDpa cdDpa ctDpa), slDpa⟩)
    (cDpa : PySem.W.codeIn K cdDpa "Draft.part" = true)
    (kDpa : PySem.W.keepIn K (.ref fDpa) = true)
    (aDma : PySem.W.findIn K (.ref CD) "made" = some (some (.ref fDma)))
    (iDma : PySem.W.isFn K (.ref fDma) = true)
    (lDma : K.lookup fDma = some ⟨ocDma, odDma, .func (PySem.W.fnOf "made" "Draft.made" (defArgs s_Draft_made) (defBody s_Draft_made) (defScope s_Draft_made) .none kVDma dcDma pmDma anDma cdDma ctDma), slDma⟩)
    (cDma : PySem.W.codeIn K cdDma "Draft.made" = true)
    (kDma : PySem.W.keepIn K (.ref fDma) = true)
    (aYi : PySem.W.findIn K (.ref CY) "__init__" = some (some (.ref fYi)))
    (iYi : PySem.W.isFn K (.ref fYi) = true)
    (lYi : K.lookup fYi = some ⟨ocYi, odYi, .func (PySem.W.fnOf "__init__" "Yard.__init__" (defArgs s_Yard___init__) (defBody s_Yard___init__) (defScope s_Yard___init__) (.ref TY) kVYi dcYi pmYi anYi cdYi ctYi), slYi⟩)
    (cYi : PySem.W.codeIn K cdYi "Yard.__init__" = true)
    (kYi : PySem.W.keepIn K (.ref fYi) = true)
    (aYs : PySem.W.findIn K (.ref CY) "stations" = some (some (.ref pYs)))
    (gYs : PySem.W.specialIn K (.ref pYs) "__get__" = some (some (.builtin "property.__get__")))
    (tYs : PySem.W.takesIn K (.ref pYs) = some true)
    (rYs : PySem.W.recIn K pYs "property" = some (.ref fYs :: reYs))
    (lYs : K.lookup fYs = some ⟨ocYs, odYs, .func (PySem.W.fnOf "stations" "Yard.stations" (defArgs s_Yard_stations) (defBody s_Yard_stations) (defScope s_Yard_stations) .none kVYs dcYs pmYs anYs cdYs ctYs), slYs⟩)
    (cYs : PySem.W.codeIn K cdYs "Yard.stations" = true)
    (kYs : PySem.W.keepIn K (.ref fYs) = true)
    (aYp : PySem.W.findIn K (.ref CY) "pipes" = some (some (.ref pYp)))
    (gYp : PySem.W.specialIn K (.ref pYp) "__get__" = some (some (.builtin "property.__get__")))
    (tYp : PySem.W.takesIn K (.ref pYp) = some true)
    (rYp : PySem.W.recIn K pYp "property" = some (.ref fYp :: reYp))
    (lYp : K.lookup fYp = some ⟨ocYp, odYp, .func (PySem.W.fnOf "pipes" "Yard.pipes" (defArgs s_Yard_pipes) (defBody s_Yard_pipes) (defScope s_Yard_pipes) .none kVYp dcYp pmYp anYp cdYp ctYp), slYp⟩)
    (cYp : PySem.W.codeIn K cdYp "Yard.pipes" = true)
    (kYp : PySem.W.keepIn K (.ref fYp) = true)
    (aYe : PySem.W.findIn K (.ref CY) "exits" = some (some (.ref pYe)))
    (gYe : PySem.W.specialIn K (.ref pYe) "__get__" = some (some (.builtin "property.__get__")))
    (tYe : PySem.W.takesIn K (.ref pYe) = some true)
    (rYe : PySem.W.recIn K pYe "property" = some (.ref fYe :: reYe))
    (lYe : K.lookup fYe = some ⟨ocYe, odYe, .func (PySem.W.fnOf "exits" "Yard.exits" (defArgs s_Yard_exits) (defBody s_Yard_exits) (defScope s_Yard_exits) .none kVYe dcYe pmYe anYe cdYe ctYe), slYe⟩)
    (cYe : PySem.W.codeIn K cdYe "Yard.exits" = true)
    (kYe : PySem.W.keepIn K (.ref fYe) = true)
    (aYb : PySem.W.findIn K (.ref CY) "begin" = some (some (.ref pYb)))
    (gYb : PySem.W.specialIn K (.ref pYb) "__get__" = some (some (.builtin "property.__get__")))
    (tYb : PySem.W.takesIn K (.ref pYb) = some true)
    (rYb : PySem.W.recIn K pYb "property" = some (.ref fYb :: reYb))
    (lYb : K.lookup fYb = some ⟨ocYb, odYb, .func (PySem.W.fnOf "begin" "Yard.begin" (defArgs s_Yard_begin) (defBody s_Yard_begin) (defScope s_Yard_begin) .none kVYb dcYb pmYb anYb cdYb ctYb), slYb⟩)
    (cYb : PySem.W.codeIn K cdYb "Yard.begin" = true)
    (kYb : PySem.W.keepIn K (.ref fYb) = true)
    (aYl : PySem.W.findIn K (.ref CY) "__len__" = some (some (.ref fYl)))
    (iYl : PySem.W.isFn K (.ref fYl) = true)
    (lYl : K.lookup fYl = some ⟨ocYl, odYl, .func (PySem.W.fnOf "__len__" "Yard.__len__" (defArgs s_Yard___len__) (defBody s_Yard___len__) (defScope s_Yard___len__) .none kVYl dcYl pmYl anYl cdYl ctYl), slYl⟩)
    (cYl : PySem.W.codeIn K cdYl "Yard.__len__" = true)
    (kYl : PySem.W.keepIn K (.ref fYl) = true)
    (aYeq : PySem.W.findIn K (.ref CY) "__eq__" = some (some (.ref fYeq)))
    (iYeq : PySem.W.isFn K (.ref fYeq) = true)
    (lYeq : K.lookup fYeq = some ⟨ocYeq, odYeq, .func (PySem.W.fnOf "__eq__" "Yard.__eq__" (defArgs s_Yard___eq__) (defBody s_Yard___eq__) (defScope s_Yard___eq__) .none kVYeq dcYeq pmYeq anYeq cdYeq ctYeq), slYeq⟩)
    (cYeq : PySem.W.codeIn K cdYeq "Yard.__eq__" = true)
    (kYeq : PySem.W.keepIn K (.ref fYeq) = true)
    (hTY : K.lookup TY = some ⟨ocT, odT, .seq #[.none] nT, slT⟩)
    (pgC : PySem.W.plainGet K C Str.empty = true)
    (hdC : PySem.W.hasDictIn K C = true)
    (poC : PySem.W.plainOver K C = true)
    (saC : PySem.W.findIn K (.ref C) "__setattr__" = some (some (.builtin "object.__setattr__")))
    (mkC : PySem.W.makesIn K C = true)
    (kcC : PySem.W.keepIn K (.ref C) = true)
    (pgCD : PySem.W.plainGet K CD Str.empty = true)
    (hdCD : PySem.W.hasDictIn K CD = true)
    (poCD : PySem.W.plainOver K CD = true)
    (saCD : PySem.W.findIn K (.ref CD) "__setattr__" = some (some (.builtin "object.__setattr__")))
    (mkCD : PySem.W.makesIn K CD = true)
    (kcCD : PySem.W.keepIn K (.ref CD) = true)
    (pgCY : PySem.W.plainGet K CY Str.empty = true)
    (hdCY : PySem.W.hasDictIn K CY = true)
    (poCY : PySem.W.plainOver K CY = true)
    (saCY : PySem.W.findIn K (.ref CY) "__setattr__" = some (some (.builtin "object.__setattr__")))
    (mkCY : PySem.W.makesIn K CY = true)
    (kcCY : PySem.W.keepIn K (.ref CY) = true)
    (no_C_own_ins : PySem.W.findIn K (.ref C) "own_ins" = some none)
    (no_C_own_outs : PySem.W.findIn K (.ref C) "own_outs" = some none)
    (no_C_own_standings : PySem.W.findIn K (.ref C) "own_standings" = some none)
    (no_CD_own_stations : PySem.W.findIn K (.ref CD) "own_stations" = some none)
    (no_CD_own_pipes : PySem.W.findIn K (.ref CD) "own_pipes" = some none)
    (no_CY_own_stations : PySem.W.findIn K (.ref CY) "own_stations" = some none)
    (no_CY_own_pipes : PySem.W.findIn K (.ref CY) "own_pipes" = some none)
    (no_CY_own_exits : PySem.W.findIn K (.ref CY) "own_exits" = some none)
    (no_CY_own_begin : PySem.W.findIn K (.ref CY) "own_begin" = some none)
    (no_CY_own_into : PySem.W.findIn K (.ref CY) "own_into" = some none)
    (no_CY_own_onto : PySem.W.findIn K (.ref CY) "own_onto" = some none)
    (ocC : PySem.W.findIn K (.ref C) "__class__" = some (some (.builtin "object.__class__")))
    (moC : PySem.W.mroIn K C (.type "object") = some true)
    (neC : PySem.W.findIn K (.ref C) "__ne__" = some (some (.builtin "object.__ne__")))
    (ocCY : PySem.W.findIn K (.ref CY) "__class__" = some (some (.builtin "object.__class__")))
    (moCY : PySem.W.mroIn K CY (.type "object") = some true)
    (neCY : PySem.W.findIn K (.ref CY) "__ne__" = some (some (.builtin "object.__ne__")))
    (ocg : PySem.W.specialIn K (.builtin "object.__class__") "__get__" = some (some (.builtin "getset_descriptor.__get__")))
    (oct : PySem.W.takesIn K (.builtin "object.__class__") = some true)
    (me : PySem.W.findIn K (.ref CY) "MOST_EXITS" = some (some (.int 3 tME)))
    (meg : PySem.W.specialIn K (.int 3 tME) "__get__" = some none)
    (rd : PySem.W.readsIn K CY (.type "type") = true)
    (ga : PySem.W.specialIn K (.ref CY) "__getattribute__" = some (some (.builtin "type.__getattribute__")))
    (ms : PySem.W.findCls K (.ref CY) (.type "type") "MOST_STATIONS" = some (.val (.int 12 tMS)))
    (z_len : PySem.W.nsIn K mainGlobals "len" = some none)
    (z_isinstance : PySem.W.nsIn K mainGlobals "isinstance" = some none)
    (z_all : PySem.W.nsIn K mainGlobals "all" = some none)
    (z_sum : PySem.W.nsIn K mainGlobals "sum" = some none)
    (z_abs : PySem.W.nsIn K mainGlobals "abs" = some none)
    (z_max : PySem.W.nsIn K mainGlobals "max" = some none)
    (z_min : PySem.W.nsIn K mainGlobals "min" = some none)
    (z_divmod : PySem.W.nsIn K mainGlobals "divmod" = some none)
    (z_repr : PySem.W.nsIn K mainGlobals "repr" = some none)
    (z_int : PySem.W.nsIn K mainGlobals "int" = some none)
    (z_str : PySem.W.nsIn K mainGlobals "str" = some none)
    (z_tuple : PySem.W.nsIn K mainGlobals "tuple" = some none)
    (z_list : PySem.W.nsIn K mainGlobals "list" = some none)
    (z_zip : PySem.W.nsIn K mainGlobals "zip" = some none)
    (z_range : PySem.W.nsIn K mainGlobals "range" = some none)
    (z_bool : PySem.W.nsIn K mainGlobals "bool" = some none)
    (z_enumerate : PySem.W.nsIn K mainGlobals "enumerate" = some none)
    (z_sorted : PySem.W.nsIn K mainGlobals "sorted" = some none)
    (g_SIGNS : PySem.W.nsIn K mainGlobals "SIGNS" = some (some (.ref aS)))
    (h_SIGNS : K.lookup aS = some ⟨.type "tuple", ddSIGNS, .seq #[.str "0" tSIGNS0, .str "1" tSIGNS1] nnSIGNS, ssSIGNS⟩)
    (g_OF_ONE : PySem.W.nsIn K mainGlobals "OF_ONE" = some (some (.ref aO1)))
    (h_OF_ONE : K.lookup aO1 = some ⟨.type "tuple", ddOF_ONE, .seq #[.str "not" tOF_ONE0, .str "twice" tOF_ONE1, .str "half" tOF_ONE2, .str "change" tOF_ONE3, .str "count" tOF_ONE4] nnOF_ONE, ssOF_ONE⟩)
    (g_OF_TWO : PySem.W.nsIn K mainGlobals "OF_TWO" = some (some (.ref aO2)))
    (h_OF_TWO : K.lookup aO2 = some ⟨.type "tuple", ddOF_TWO, .seq #[.str "keep" tOF_TWO0, .str "then" tOF_TWO1] nnOF_TWO, ssOF_TWO⟩)
    (g_TWOS : PySem.W.nsIn K mainGlobals "TWOS" = some (some (.ref aT)))
    (h_TWOS : K.lookup aT = some ⟨.type "tuple", ddTWOS, .seq #[.str "00" tTWOS0, .str "01" tTWOS1, .str "10" tTWOS2, .str "11" tTWOS3] nnTWOS, ssTWOS⟩)
    (g_IN : PySem.W.nsIn K mainGlobals "IN" = some (some (.str "in" tIN)))
    (g_LATE : PySem.W.nsIn K mainGlobals "LATE" = some (some (.str "late" tLATE)))
    (g_BY : PySem.W.nsIn K mainGlobals "BY" = some (some (.str "by" tBY)))
    (g_KEEP : PySem.W.nsIn K mainGlobals "KEEP" = some (some (.str "keep" tKEEP)))
    (g_THEN : PySem.W.nsIn K mainGlobals "THEN" = some (some (.str "then" tTHEN)))
    (g_MOST_NODES : PySem.W.nsIn K mainGlobals "MOST_NODES" = some (some (.int 9 tMOST_NODES)))
    (g_MOST_STANDINGS : PySem.W.nsIn K mainGlobals "MOST_STANDINGS" = some (some (.int 4 tMOST_STANDINGS)))
    (g_MOST_GIVEN : PySem.W.nsIn K mainGlobals "MOST_GIVEN" = some (some (.int 2 tMOST_GIVEN)))
    (g_MOST_TICKS : PySem.W.nsIn K mainGlobals "MOST_TICKS" = some (some (.int 9 tMOST_TICKS)))
    (g_LINES : PySem.W.nsIn K mainGlobals "LINES" = some (some (.ref aL)))
    (h_LINES : K.lookup aL = some ⟨.type "dict", none, .dict esL nL, #[]⟩)
    (y_LINES : PySem.W.KeysLit w.params esL.toList)
    (w_LINES : (aL == sysModules) = false)
    (n1 : PySem.W.nsIn K aL "1" = some (some u1))
    (n2 : PySem.W.nsIn K aL "2" = some (some u2))
    (n3 : PySem.W.nsIn K aL "12" = some (some u3)) :
    ∃ fd : FuncData, (∀ (s : Shared) (v : Value), BindsTo s fd ⟨[v], []⟩ [("_law_script", v)]) ∧ ∀ base : Heap, K.In base → base.Ns mainGlobals mg → FnG l.prog w K mg base 32 fa fd ["_law_script"] (spLaw K) := by
  have e := hfa.symm.trans (PySem.W.mg_of X G a42)
  cases e
  have F1 := fun_mk (st := s_is_integer) l1 c1 k1
  have b1 := F1.binds (ps := ["value"]) fun _ _ _ _ _ _ us hl => match us, hl with | [_], _ => rfl
  have m1 := PySem.W.mg_of X G a1
  have F2 := fun_mk (st := s_is_count) l2 c2 k2
  have b2 := F2.binds (ps := ["value"]) fun _ _ _ _ _ _ us hl => match us, hl with | [_], _ => rfl
  have m2 := PySem.W.mg_of X G a2
  have F3 := fun_mk (st := s_is_below) l3 c3 k3
  have b3 := F3.binds (ps := ["value", "limit"]) fun _ _ _ _ _ _ us hl => match us, hl with | [_, _], _ => rfl
  have m3 := PySem.W.mg_of X G a3
  have F4 := fun_mk (st := s_is_sign) l4 c4 k4
  have b4 := F4.binds (ps := ["value"]) fun _ _ _ _ _ _ us hl => match us, hl with | [_], _ => rfl
  have m4 := PySem.W.mg_of X G a4
  have F5 := fun_mk (st := s_is_text) l5 c5 k5
  have b5 := F5.binds (ps := ["value"]) fun _ _ _ _ _ _ us hl => match us, hl with | [_], _ => rfl
  have m5 := PySem.W.mg_of X G a5
  have F6 := fun_mk (st := s_is_list) l6 c6 k6
  have b6 := F6.binds (ps := ["value"]) fun _ _ _ _ _ _ us hl => match us, hl with | [_], _ => rfl
  have m6 := PySem.W.mg_of X G a6
  have F7 := fun_mk (st := s_is_text_of) l7 c7 k7
  have b7 := F7.binds (ps := ["value", "most"]) fun _ _ _ _ _ _ us hl => match us, hl with | [_, _], _ => rfl
  have m7 := PySem.W.mg_of X G a7
  have F8 := fun_mk (st := s_is_row) l8 c8 k8
  have b8 := F8.binds (ps := ["value", "outs", "many"]) fun _ _ _ _ _ _ us hl => match us, hl with | [_, _, _], _ => rfl
  have m8 := PySem.W.mg_of X G a8
  have F9 := fun_mk (st := s_are_read) l9 c9 k9
  have b9 := F9.binds (ps := ["value", "ins"]) fun _ _ _ _ _ _ us hl => match us, hl with | [_, _], _ => rfl
  have m9 := PySem.W.mg_of X G a9
  have F10 := fun_mk (st := s_is_standing_told) l10 c10 k10
  have b10 := F10.binds (ps := ["value", "ins", "outs", "many"]) fun _ _ _ _ _ _ us hl => match us, hl with | [_, _, _, _], _ => rfl
  have m10 := PySem.W.mg_of X G a10
  have F11 := fun_mk (st := s_want_stations) l11 c11 k11
  have b11 := F11.binds (ps := ["stations"]) fun _ _ _ _ _ _ us hl => match us, hl with | [_], _ => rfl
  have m11 := PySem.W.mg_of X G a11
  have F12 := fun_mk (st := s_is_pipe) l12 c12 k12
  have b12 := F12.binds (ps := ["stations", "value"]) fun _ _ _ _ _ _ us hl => match us, hl with | [_, _], _ => rfl
  have m12 := PySem.W.mg_of X G a12
  have F13 := fun_mk (st := s_want_pipes) l13 c13 k13
  have b13 := F13.binds (ps := ["stations", "pipes"]) fun _ _ _ _ _ _ us hl => match us, hl with | [_, _], _ => rfl
  have m13 := PySem.W.mg_of X G a13
  have F14 := fun_mk (st := s_free_lines) l14 c14 k14
  have b14 := F14.binds (ps := ["stations", "pipes"]) fun _ _ _ _ _ _ us hl => match us, hl with | [_, _], _ => rfl
  have m14 := PySem.W.mg_of X G a14
  have F15 := fun_mk (st := s_is_begin) l15 c15 k15
  have b15 := F15.binds (ps := ["yard", "value"]) fun _ _ _ _ _ _ us hl => match us, hl with | [_, _], _ => rfl
  have m15 := PySem.W.mg_of X G a15
  have F16 := fun_mk (st := s_parts_of) l16 c16 k16
  have b16 := F16.binds (ps := ["term"]) fun _ _ _ _ _ _ us hl => match us, hl with | [_], _ => rfl
  have m16 := PySem.W.mg_of X G a16
  have F17 := fun_mk (st := s_has_shape) l17 c17 k17
  have b17 := F17.binds (ps := ["value"]) fun _ _ _ _ _ _ us hl => match us, hl with | [_], _ => rfl
  have m17 := PySem.W.mg_of X G a17
  have F18 := fun_mk (st := s_is_term) l18 c18 k18
  have b18 := F18.binds (ps := ["value"]) fun _ _ _ _ _ _ us hl => match us, hl with | [_], _ => rfl
  have m18 := PySem.W.mg_of X G a18
  have F19 := fun_mk (st := s_want_term) l19 c19 k19
  have b19 := F19.binds (ps := ["value"]) fun _ _ _ _ _ _ us hl => match us, hl with | [_], _ => rfl
  have m19 := PySem.W.mg_of X G a19
  have F20 := fun_mk (st := s_row) l20 c20 k20
  have b20 := F20.binds (ps := ["text", "goal"]) fun _ _ _ _ _ _ us hl => match us, hl with | [_, _], _ => rfl
  have m20 := PySem.W.mg_of X G a20
  have F21 := fun_mk (st := s_kept) l21 c21 k21
  have b21 := F21.binds (ps := ["two"]) fun _ _ _ _ _ _ us hl => match us, hl with | [_], _ => rfl
  have m21 := PySem.W.mg_of X G a21
  have F22 := fun_mk (st := s_late_rows) l22 c22 k22
  have b22 := F22.binds (ps := ["sign"]) fun _ _ _ _ _ _ us hl => match us, hl with | [_], _ => rfl
  have m22 := PySem.W.mg_of X G a22
  have F23 := fun_mk (st := s_rows_of) l23 c23 k23
  have b23 := F23.binds (ps := ["term"]) fun _ _ _ _ _ _ us hl => match us, hl with | [_], _ => rfl
  have m23 := PySem.W.mg_of X G a23
  have F24 := fun_mk (st := s_one_way) l24 c24 k24
  have b24 := F24.binds (ps := ["rows_now"]) fun _ _ _ _ _ _ us hl => match us, hl with | [_], _ => rfl
  have m24 := PySem.W.mg_of X G a24
  have F25 := fun_mk (st := s_station_of) l25 c25 k25
  have b25 := F25.binds (ps := ["term"]) fun _ _ _ _ _ _ us hl => match us, hl with | [_], _ => rfl
  have m25 := PySem.W.mg_of X G a25
  have F26 := fun_mk (st := s_station_for) l26 c26 k26
  have b26 := F26.binds (ps := ["term"]) fun _ _ _ _ _ _ us hl => match us, hl with | [_], _ => rfl
  have m26 := PySem.W.mg_of X G a26
  have F27 := fun_mk (st := s_outer_ins) l27 c27 k27
  have b27 := F27.binds (ps := ["term"]) fun _ _ _ _ _ _ us hl => match us, hl with | [_], _ => rfl
  have m27 := PySem.W.mg_of X G a27
  have F28 := fun_mk (st := s_compiled) l28 c28 k28
  have b28 := F28.binds (ps := ["term"]) fun _ _ _ _ _ _ us hl => match us, hl with | [_], _ => rfl
  have m28 := PySem.W.mg_of X G a28
  have F29 := fun_mk (st := s_law_pot) l29 c29 k29
  have b29 := F29.binds (ps := ["_law_script", "_law_k"]) fun _ _ _ _ _ _ us hl => match us, hl with | [_, _], _ => rfl
  have m29 := PySem.W.mg_of X G a29
  have F30 := fun_mk (st := s_law_draw) l30 c30 k30
  have b30 := F30.binds (ps := ["_law_pot_here", "_law_size"]) fun _ _ _ _ _ _ us hl => match us, hl with | [_, _], _ => rfl
  have m30 := PySem.W.mg_of X G a30
  have F31 := fun_mk (st := s_law_pick) l31 c31 k31
  have b31 := F31.binds (ps := ["_law_pot_here", "_law_some"]) fun _ _ _ _ _ _ us hl => match us, hl with | [_, _], _ => rfl
  have m31 := PySem.W.mg_of X G a31
  have F32 := fun_mk (st := s_law_term) l32 c32 k32
  have b32 := F32.binds (ps := ["_law_pot_here", "_law_most"]) fun _ _ _ _ _ _ us hl => match us, hl with | [_, _], _ => rfl
  have m32 := PySem.W.mg_of X G a32
  have F33 := fun_mk (st := s_law_station) l33 c33 k33
  have b33 := F33.binds (ps := ["_law_term_here"]) fun _ _ _ _ _ _ us hl => match us, hl with | [_], _ => rfl
  have m33 := PySem.W.mg_of X G a33
  have F34 := fun_mk (st := s_law_outer) l34 c34 k34
  have b34 := F34.binds (ps := ["_law_term_here"]) fun _ _ _ _ _ _ us hl => match us, hl with | [_], _ => rfl
  have m34 := PySem.W.mg_of X G a34
  have F35 := fun_mk (st := s_law_put) l35 c35 k35
  have b35 := F35.binds (ps := ["_law_made", "_law_station_here", "_law_lines"]) fun _ _ _ _ _ _ us hl => match us, hl with | [_, _, _], _ => rfl
  have m35 := PySem.W.mg_of X G a35
  have F36 := fun_mk (st := s_law_node) l36 c36 k36
  have b36 := F36.binds (ps := ["_law_made", "_law_term_here", "_law_lines"]) fun _ _ _ _ _ _ us hl => match us, hl with | [_, _, _], _ => rfl
  have m36 := PySem.W.mg_of X G a36
  have F37 := fun_mk (st := s_law_built) l37 c37 k37
  have b37 := F37.binds (ps := ["_law_made", "_law_term_here", "_law_line"]) fun _ _ _ _ _ _ us hl => match us, hl with | [_, _, _], _ => rfl
  have m37 := PySem.W.mg_of X G a37
  have F38 := fun_mk (st := s_law_compiled) l38 c38 k38
  have b38 := F38.binds (ps := ["_law_term_here"]) fun _ _ _ _ _ _ us hl => match us, hl with | [_], _ => rfl
  have m38 := PySem.W.mg_of X G a38
  have F39 := fun_mk (st := s_law_own_nodes) l39 c39 k39
  have b39 := F39.binds (ps := ["_law_term_here"]) fun _ _ _ _ _ _ us hl => match us, hl with | [_], _ => rfl
  have m39 := PySem.W.mg_of X G a39
  have F40 := fun_mk (st := s_law_shown) l40 c40 k40
  have b40 := F40.binds (ps := ["_law_station_here"]) fun _ _ _ _ _ _ us hl => match us, hl with | [_], _ => rfl
  have m40 := PySem.W.mg_of X G a40
  have F41 := fun_mk (st := s_law_right) l41 c41 k41
  have b41 := F41.binds (ps := ["_law_pot_here"]) fun _ _ _ _ _ _ us hl => match us, hl with | [_], _ => rfl
  have m41 := PySem.W.mg_of X G a41
  have F42 := fun_mk (st := s_law) l42 c42 k42
  have b42 := F42.binds (ps := ["_law_script"]) fun _ _ _ _ _ _ us hl => match us, hl with | [_], _ => rfl
  have m42 := PySem.W.mg_of X G a42
  have FSi := fun_mk (st := s_Station___init__) lSi cSi kSi
  have bSi := FSi.binds (ps := ["self", "ins", "outs", "standings"]) fun _ _ _ _ _ _ us hl => match us, hl with | [_, _, _, _], _ => rfl
  have FSins := fun_mk (st := s_Station_ins) lSins cSins kSins
  have bSins := FSins.binds (ps := ["self"]) fun _ _ _ _ _ _ us hl => match us, hl with | [_], _ => rfl
  have FSouts := fun_mk (st := s_Station_outs) lSouts cSouts kSouts
  have bSouts := FSouts.binds (ps := ["self"]) fun _ _ _ _ _ _ us hl => match us, hl with | [_], _ => rfl
  have FSst := fun_mk (st := s_Station_standings) lSst cSst kSst
  have bSst := FSst.binds (ps := ["self"]) fun _ _ _ _ _ _ us hl => match us, hl with | [_], _ => rfl
  have FSeq := fun_mk (st := s_Station___eq__) lSeq cSeq kSeq
  have bSeq := FSeq.binds (ps := ["self", "other"]) fun _ _ _ _ _ _ us hl => match us, hl with | [_, _], _ => rfl
  have FDi := fun_mk (st := s_Draft___init__) lDi cDi kDi
  have bDi := FDi.binds (ps := ["self"]) fun _ _ _ _ _ _ us hl => match us, hl with | [_], _ => rfl
  have FDadd := fun_mk (st := s_Draft_add) lDadd cDadd kDadd
  have bDadd := FDadd.binds (ps := ["self", "station", "lines"]) fun _ _ _ _ _ _ us hl => match us, hl with | [_, _, _], _ => rfl
  have FDcop := fun_mk (st := s_Draft_copies) lDcop cDcop kDcop
  have bDcop := FDcop.binds (ps := ["self", "line", "many"]) fun _ _ _ _ _ _ us hl => match us, hl with | [_, _, _], _ => rfl
  have FDwh := fun_mk (st := s_Draft_whole) lDwh cDwh kDwh
  have bDwh := FDwh.binds (ps := ["self", "term", "line"]) fun _ _ _ _ _ _ us hl => match us, hl with | [_, _, _], _ => rfl
  have FDpa := fun_mk (st := s_Draft_part) lDpa cDpa kDpa
  have bDpa := FDpa.binds (ps := ["self", "term", "lines"]) fun _ _ _ _ _ _ us hl => match us, hl with | [_, _, _], _ => rfl
  have FDma := fun_mk (st := s_Draft_made) lDma cDma kDma
  have bDma := FDma.binds (ps := ["self"]) fun _ _ _ _ _ _ us hl => match us, hl with | [_], _ => rfl
  have FYi : FunD K "__init__" "Yard.__init__" (defArgs s_Yard___init__) (defBody s_Yard___init__) (defScope s_Yard___init__) [.non] [] fYi _ := ⟨⟨ocYi, odYi, .ref TY, kVYi, dcYi, pmYi, anYi, cdYi, ctYi, slYi, rfl, lYi, cYi, .inr ⟨List.cons_ne_nil _ _, TY, _, [.none], nT, rfl, hTY, rfl, .cons rfl .nil⟩, .inl rfl⟩, kYi⟩
  obtain ⟨dsYi, vYi, bYi⟩ := FYi.binds1 (ps := ["self", "stations", "pipes", "begin"]) 3 0 (List.cons_ne_nil _ _) rfl fun _ _ _ _ _ _ _ us its hl hi => match us, its, hl, hi with | [_, _, _], [_], _, _ => ⟨_, rfl, rfl⟩
  have FYs := fun_mk (st := s_Yard_stations) lYs cYs kYs
  have bYs := FYs.binds (ps := ["self"]) fun _ _ _ _ _ _ us hl => match us, hl with | [_], _ => rfl
  have FYp := fun_mk (st := s_Yard_pipes) lYp cYp kYp
  have bYp := FYp.binds (ps := ["self"]) fun _ _ _ _ _ _ us hl => match us, hl with | [_], _ => rfl
  have FYe := fun_mk (st := s_Yard_exits) lYe cYe kYe
  have bYe := FYe.binds (ps := ["self"]) fun _ _ _ _ _ _ us hl => match us, hl with | [_], _ => rfl
  have FYb := fun_mk (st := s_Yard_begin) lYb cYb kYb
  have bYb := FYb.binds (ps := ["self"]) fun _ _ _ _ _ _ us hl => match us, hl with | [_], _ => rfl
  have FYl := fun_mk (st := s_Yard___len__) lYl cYl kYl
  have bYl := FYl.binds (ps := ["self"]) fun _ _ _ _ _ _ us hl => match us, hl with | [_], _ => rfl
  have FYeq := fun_mk (st := s_Yard___eq__) lYeq cYeq kYeq
  have bYeq := FYeq.binds (ps := ["self", "other"]) fun _ _ _ _ _ _ us hl => match us, hl with | [_, _], _ => rfl
  have T : Txt K mg aS aO1 aO2 := { b_len := PySem.W.mg_none_of X G z_len, b_isinstance := PySem.W.mg_none_of X G z_isinstance, b_all := PySem.W.mg_none_of X G z_all, b_sum := PySem.W.mg_none_of X G z_sum, b_abs := PySem.W.mg_none_of X G z_abs, b_max := PySem.W.mg_none_of X G z_max, b_min := PySem.W.mg_none_of X G z_min, b_divmod := PySem.W.mg_none_of X G z_divmod, b_repr := PySem.W.mg_none_of X G z_repr, b_int := PySem.W.mg_none_of X G z_int, b_str := PySem.W.mg_none_of X G z_str, b_tuple := PySem.W.mg_none_of X G z_tuple, b_list := PySem.W.mg_none_of X G z_list, b_zip := PySem.W.mg_none_of X G z_zip, b_range := PySem.W.mg_none_of X G z_range, b_bool := PySem.W.mg_none_of X G z_bool, b_enumerate := PySem.W.mg_none_of X G z_enumerate, b_sorted := PySem.W.mg_none_of X G z_sorted, g_SIGNS := ⟨_, PySem.W.mg_of X G g_SIGNS, rfl⟩, k_SIGNS := fun _ => .inr ⟨_, _, _, h_SIGNS, rfl, rfl, arr5 (Nat.le_of_ble_eq_true rfl), .cons ⟨_, rfl⟩ (.cons ⟨_, rfl⟩ (.nil))⟩, g_OF_ONE := ⟨_, PySem.W.mg_of X G g_OF_ONE, rfl⟩, k_OF_ONE := fun _ => .inr ⟨_, _, _, h_OF_ONE, rfl, rfl, arr5 (Nat.le_of_ble_eq_true rfl), .cons ⟨_, rfl⟩ (.cons ⟨_, rfl⟩ (.cons ⟨_, rfl⟩ (.cons ⟨_, rfl⟩ (.cons ⟨_, rfl⟩ (.nil)))))⟩, g_OF_TWO := ⟨_, PySem.W.mg_of X G g_OF_TWO, rfl⟩, k_OF_TWO := fun _ => .inr ⟨_, _, _, h_OF_TWO, rfl, rfl, arr5 (Nat.le_of_ble_eq_true rfl), .cons ⟨_, rfl⟩ (.cons ⟨_, rfl⟩ (.nil))⟩, g_IN := ⟨_, PySem.W.mg_of X G g_IN, ⟨_, rfl⟩⟩, g_LATE := ⟨_, PySem.W.mg_of X G g_LATE, ⟨_, rfl⟩⟩, g_BY := ⟨_, PySem.W.mg_of X G g_BY, ⟨_, rfl⟩⟩, g_KEEP := ⟨_, PySem.W.mg_of X G g_KEEP, ⟨_, rfl⟩⟩, g_THEN := ⟨_, PySem.W.mg_of X G g_THEN, ⟨_, rfl⟩⟩, g_MOST_NODES := ⟨_, PySem.W.mg_of X G g_MOST_NODES, ⟨_, rfl⟩⟩, g_MOST_STANDINGS := ⟨_, PySem.W.mg_of X G g_MOST_STANDINGS, ⟨_, rfl⟩⟩, g_MOST_GIVEN := ⟨_, PySem.W.mg_of X G g_MOST_GIVEN, ⟨_, rfl⟩⟩, g_MOST_TICKS := ⟨_, PySem.W.mg_of X G g_MOST_TICKS, ⟨_, rfl⟩⟩ }
  have U : Twos K mg aT := ⟨⟨_, PySem.W.mg_of X G g_TWOS, rfl⟩, fun _ => .inr ⟨_, _, _, h_TWOS, rfl, rfl, arr5 (Nat.le_of_ble_eq_true rfl), .cons ⟨_, rfl⟩ (.cons ⟨_, rfl⟩ (.cons ⟨_, rfl⟩ (.cons ⟨_, rfl⟩ (.nil))))⟩⟩
  have L : Lin K w mg aL := ⟨⟨_, PySem.W.mg_of X G g_LINES, rfl⟩, ⟨esL, nL, h_LINES, y_LINES, w_LINES⟩, fun r => match r with | .one => ⟨_, n1⟩ | .two => ⟨_, n2⟩ | .both => ⟨_, n3⟩⟩
  have clC : Cls K C := ⟨pgC, hdC, poC, saC⟩
  have clCD : Cls K CD := ⟨pgCD, hdCD, poCD, saCD⟩
  have clCY : Cls K CY := ⟨pgCY, hdCY, poCY, saCY⟩
  have S : StC K mg C := { g_Station := ⟨_, PySem.W.mg_of X G g_Station, rfl⟩, cl := clC, nI := no_C_own_ins, nO := no_C_own_outs, nS := no_C_own_standings }
  have D : DrC K mg CD := { cl := clCD, nS := no_CD_own_stations, nP := no_CD_own_pipes }
  have Y : YdF K CY := { cl := clCY, nS := no_CY_own_stations, nP := no_CY_own_pipes, nX := no_CY_own_exits, nB := no_CY_own_begin, nI := no_CY_own_into, nO := no_CY_own_onto, me := ⟨_, me, ⟨_, rfl⟩, meg, by decide +kernel⟩ }
  have Y0 : YdC K mg CY (.type "type") := { g_Yard := ⟨_, PySem.W.mg_of X G g_Yard, rfl⟩, cr := ⟨rd, ga⟩, ms := ⟨_, ms, ⟨_, rfl⟩⟩ }
  have IS : IsaC K C := ⟨clC, ocC, ocg, oct, moC⟩
  have IY : IsaC K CY := ⟨clCY, ocCY, ocg, oct, moCY⟩
  refine ⟨PySem.W.fnOf "law" "law" (defArgs s_law) (defBody s_law) (defScope s_law) .none kV42 dc42 pm42 an42 cd42 ct42, fun s v => .of_eq rfl, fun base _ _ => ?_⟩
  have c_is_integer : C8.Cal l.prog w K mg base 1 "is_integer" spIsInt [] := ⟨⟨_, _, _, [], ok_is_integer F1 T, m1, k1, b1, .nil⟩⟩
  have c_is_count : C8.Cal l.prog w K mg base 2 "is_count" spIsCount [] := ⟨⟨_, _, _, [], ok_is_count F2 T c_is_integer, m2, k2, b2, .nil⟩⟩
  have c_is_below : C8.Cal l.prog w K mg base 3 "is_below" spIsBelow [] := ⟨⟨_, _, _, [], ok_is_below F3 T c_is_count, m3, k3, b3, .nil⟩⟩
  have c_is_sign : C8.Cal l.prog w K mg base 1 "is_sign" spIsSign [] := ⟨⟨_, _, _, [], ok_is_sign F4 T, m4, k4, b4, .nil⟩⟩
  have c_is_text : C8.Cal l.prog w K mg base 1 "is_text" spIsText [] := ⟨⟨_, _, _, [], ok_is_text F5 T, m5, k5, b5, .nil⟩⟩
  have c_is_list : C8.Cal l.prog w K mg base 1 "is_list" spIsList [] := ⟨⟨_, _, _, [], ok_is_list F6 T, m6, k6, b6, .nil⟩⟩
  have c_is_text_of : C8.Cal l.prog w K mg base 2 "is_text_of" spIsTextOf [] := ⟨⟨_, _, _, [], ok_is_text_of F7 T c_is_text, m7, k7, b7, .nil⟩⟩
  have c_is_row : C8.Cal l.prog w K mg base 4 "is_row" spIsRow [] := ⟨⟨_, _, _, [], ok_is_row F8 T c_is_integer c_is_text_of c_is_below, m8, k8, b8, .nil⟩⟩
  have c_are_read : C8.Cal l.prog w K mg base 1 "are_read" spAreRead [] := ⟨⟨_, _, _, [], ok_are_read F9 T L, m9, k9, b9, .nil⟩⟩
  have c_is_standing_told : C8.Cal l.prog w K mg base 5 "is_standing_told" spIsTold [] := ⟨⟨_, _, _, [], ok_is_standing_told F10 T c_are_read c_is_list c_is_row, m10, k10, b10, .nil⟩⟩
  have mk_Station : C8.Mak l.prog w K mg base 6 "Station" C (spStInit C) [] := ⟨⟨_, _, _, [], ⟨mkC, aSi, iSi, kcC⟩, ok_Station_init FSi T S c_is_integer c_is_list c_is_standing_told, PySem.W.mg_of X G g_Station, bSi, .nil⟩⟩
  have c_want_stations : C8.Cal l.prog w K mg base 2 "want_stations" (spWantSt C) [] := ⟨⟨_, _, _, [], ok_want_stations F11 T S IS Y0 c_is_list, m11, k11, b11, .nil⟩⟩
  have c_is_pipe : C8.Cal l.prog w K mg base 4 "is_pipe" (spIsPipe C) [] := ⟨⟨_, _, _, [], ok_is_pipe F12 T S c_is_below, m12, k12, b12, .nil⟩⟩
  have c_want_pipes : C8.Cal l.prog w K mg base 5 "want_pipes" (spWantPp C) [] := ⟨⟨_, _, _, [], ok_want_pipes F13 T S c_is_list c_is_pipe, m13, k13, b13, .nil⟩⟩
  have c_free_lines : C8.Cal l.prog w K mg base 1 "free_lines" (spFree C) [] := ⟨⟨_, _, _, [], ok_free_lines F14 T S, m14, k14, b14, .nil⟩⟩
  have c_is_begin : C8.Cal l.prog w K mg base 1 "is_begin" spNever [] := ⟨⟨_, _, _, [], ok_is_begin F15 , m15, k15, b15, .nil⟩⟩
  have c_parts_of : C8.Cal l.prog w K mg base 1 "parts_of" spPartsOf [] := ⟨⟨_, _, _, [], ok_parts_of F16 T, m16, k16, b16, .nil⟩⟩
  have c_has_shape : C8.Cal l.prog w K mg base 2 "has_shape" spHasShape [] := ⟨⟨_, _, _, [], ok_has_shape F17 T c_is_sign c_is_text, m17, k17, b17, .nil⟩⟩
  have c_is_term : C8.Cal l.prog w K mg base 3 "is_term" spIsTerm [] := ⟨⟨_, _, _, [], ok_is_term F18 T c_has_shape c_parts_of, m18, k18, b18, .nil⟩⟩
  have c_want_term : C8.Cal l.prog w K mg base 4 "want_term" spWantTerm [] := ⟨⟨_, _, _, [], ok_want_term F19 T c_is_term, m19, k19, b19, .nil⟩⟩
  have c_row : C8.Cal l.prog w K mg base 1 "row" spRow [] := ⟨⟨_, _, _, [], ok_row F20 , m20, k20, b20, .nil⟩⟩
  have c_kept : C8.Cal l.prog w K mg base 1 "kept" spKept [] := ⟨⟨_, _, _, [], ok_kept F21 , m21, k21, b21, .nil⟩⟩
  have c_late_rows : C8.Cal l.prog w K mg base 2 "late_rows" spLate [] := ⟨⟨_, _, _, [], ok_late_rows F22 T c_row, m22, k22, b22, .nil⟩⟩
  have c_rows_of : C8.Cal l.prog w K mg base 3 "rows_of" spRowsOf [] := ⟨⟨_, _, _, [], ok_rows_of F23 c_row c_late_rows, m23, k23, b23, .nil⟩⟩
  have c_one_way : C8.Cal l.prog w K mg base 8 "one_way" (spOneWay C) [] := ⟨⟨_, _, _, [], ok_one_way F24 T mk_Station, m24, k24, b24, .nil⟩⟩
  have c_station_of : C8.Cal l.prog w K mg base 9 "station_of" (spStOf C) [] := ⟨⟨_, _, _, [], ok_station_of F25 T U mk_Station c_row c_kept c_rows_of c_one_way, m25, k25, b25, .nil⟩⟩
  have c_station_for : C8.Cal l.prog w K mg base 10 "station_for" (spStFor C) [] := ⟨⟨_, _, _, [], ok_station_for F26 T c_is_term c_station_of, m26, k26, b26, .nil⟩⟩
  have mk_Yard : C8.Mak l.prog w K mg base 6 "Yard" CY (spYdInit CY C) [.non] := ⟨⟨_, _, _, dsYi, ⟨mkCY, aYi, iYi, kcCY⟩, ok_Yard_init FYi T Y c_want_stations c_want_pipes c_free_lines c_is_begin, PySem.W.mg_of X G g_Yard, bYi, vYi⟩⟩
  have mk_Draft : C8.Mak l.prog w K mg base 1 "Draft" CD (spDrInit CD C) [] := ⟨⟨_, _, _, [], ⟨mkCD, aDi, iDi, kcCD⟩, ok_Draft_init FDi D, PySem.W.mg_of X G g_Draft, bDi, .nil⟩⟩
  have r_outer_ins := fun n => ok_outer_ins (P := l.prog) (w := w) (base := base) F27 T m27 k27 b27 c_parts_of n
  have m_Draft_add : C8.Met l.prog w K mg base 1 CD "add" (spAdd CD C) [] := ⟨⟨_, _, _, [], clCD, ⟨aDadd, iDadd, kDadd⟩, ok_Draft_add FDadd T D, bDadd, .nil⟩⟩
  have m_Draft_copies : C8.Met l.prog w K mg base 8 CD "copies" (spCopies CD C) [] := ⟨⟨_, _, _, [], clCD, ⟨aDcop, iDcop, kDcop⟩, ok_Draft_copies FDcop T mk_Station m_Draft_add, bDcop, .nil⟩⟩
  have m_Draft_part : C8.Met l.prog w K mg base 28 CD "part" (spPart CD C 9) [] := ok_parts FDpa FDwh clCD ⟨aDpa, iDpa, kDpa⟩ ⟨aDwh, iDwh, kDwh⟩ bDpa bDwh T c_parts_of c_station_of m_Draft_add m_Draft_copies r_outer_ins 9
  have m_Draft_whole : C8.Met l.prog w K mg base 29 CD "whole" (spWhole CD C 9) [] := ⟨⟨_, _, _, [], clCD, ⟨aDwh, iDwh, kDwh⟩, step_whole (n := 9) FDwh m_Draft_copies (r_outer_ins 9) m_Draft_part, bDwh, .nil⟩⟩
  have m_Draft_made : C8.Met l.prog w K mg base 9 CD "made" (spMade CD CY C) [] := ⟨⟨_, _, _, [], clCD, ⟨aDma, iDma, kDma⟩, ok_Draft_made FDma D c_row c_one_way mk_Yard, bDma, .nil⟩⟩
  have c_compiled : C8.Cal l.prog w K mg base 30 "compiled" (spCompiled CY C) [] := ⟨⟨_, _, _, [], ok_compiled F28 c_want_term mk_Draft m_Draft_whole m_Draft_made, m28, k28, b28, .nil⟩⟩
  have k_compiled : CalK l.prog w K mg base 30 "compiled" (spCompiled CY C) ["term"] (fun _ ws => ws) (fun _ zs => zs) := ⟨⟨_, _, _, ok_compiled F28 c_want_term mk_Draft m_Draft_whole m_Draft_made, m28, k28, kbn_compiled F28⟩⟩
  have c__law_pot : C8.Cal l.prog w K mg base 1 "_law_pot" (spPot K) [] := ⟨⟨_, _, _, [], ok_law_pot F29 T, m29, k29, b29, .nil⟩⟩
  have c__law_draw : C8.Cal l.prog w K mg base 1 "_law_draw" spDraw [] := ⟨⟨_, _, _, [], ok_law_draw F30 T, m30, k30, b30, .nil⟩⟩
  have c__law_pick : C8.Cal l.prog w K mg base 2 "_law_pick" spPick [] := ⟨⟨_, _, _, [], ok_law_pick F31 T c__law_draw, m31, k31, b31, .nil⟩⟩
  have c__law_term : C8.Cal l.prog w K mg base 12 "_law_term" (spTerm 9) [] := ok_law_term F32 T m32 k32 b32 c__law_draw c__law_pick 9
  have c__law_station : C8.Cal l.prog w K mg base 1 "_law_station" spLSt [] := ⟨⟨_, _, _, [], ok_law_station F33 T, m33, k33, b33, .nil⟩⟩
  have c__law_put : C8.Cal l.prog w K mg base 1 "_law_put" spLPut [] := ⟨⟨_, _, _, [], ok_law_put F35 T, m35, k35, b35, .nil⟩⟩
  have r__law_outer := fun n => ok_law_outer (P := l.prog) (w := w) (base := base) F34 T m34 k34 b34 n
  have c__law_node : C8.Cal l.prog w K mg base 28 "_law_node" (spLNode 9) [] := ok_nodes F36 F37 m36 k36 b36 m37 k37 b37 T c__law_station c__law_put r__law_outer 9
  have c__law_built : C8.Cal l.prog w K mg base 29 "_law_built" (spLBuilt 9) [] := ⟨⟨_, _, _, [], step_built (n := 9) F37 T (r__law_outer 9) c__law_put c__law_node, m37, k37, b37, .nil⟩⟩
  have c__law_compiled : C8.Cal l.prog w K mg base 30 "_law_compiled" spLComp [] := ⟨⟨_, _, _, [], ok_law_compiled F38 c__law_built, m38, k38, b38, .nil⟩⟩
  have c__law_own_nodes : C8.Cal l.prog w K mg base 9 "_law_own_nodes" (spLOwn 9) [] := ok_own_nodes F39 T m39 k39 b39  9
  have pr_ins : Prp l.prog w K mg base 1 C "ins" (spIns C) := ⟨⟨_, _, _, _, clC, ⟨aSins, gSins, tSins, ⟨_, rSins⟩⟩, ok_Station_ins FSins S, bSins⟩⟩
  have pr_outs : Prp l.prog w K mg base 1 C "outs" (spOuts C) := ⟨⟨_, _, _, _, clC, ⟨aSouts, gSouts, tSouts, ⟨_, rSouts⟩⟩, ok_Station_outs FSouts S, bSouts⟩⟩
  have m_standings : C8.Met l.prog w K mg base 1 C "standings" (spStandings C) [] := ⟨⟨_, _, _, [], clC, ⟨aSst, iSst, kSst⟩, ok_Station_standings FSst T S, bSst, .nil⟩⟩
  have c__law_shown : C8.Cal l.prog w K mg base 3 "_law_shown" (spLShown C) [] := ⟨⟨_, _, _, [], ok_law_shown F40 pr_ins pr_outs m_standings, m40, k40, b40, .nil⟩⟩
  have pr_Y_stations : Prp l.prog w K mg base 1 CY "stations" (spYS CY C) := ⟨⟨_, _, _, _, clCY, ⟨aYs, gYs, tYs, ⟨_, rYs⟩⟩, ok_Yard_stations FYs T Y, bYs⟩⟩
  have pr_Y_pipes : Prp l.prog w K mg base 1 CY "pipes" (spYP CY C) := ⟨⟨_, _, _, _, clCY, ⟨aYp, gYp, tYp, ⟨_, rYp⟩⟩, ok_Yard_pipes FYp T Y, bYp⟩⟩
  have pr_Y_exits : Prp l.prog w K mg base 1 CY "exits" (spYE CY C) := ⟨⟨_, _, _, _, clCY, ⟨aYe, gYe, tYe, ⟨_, rYe⟩⟩, ok_Yard_exits FYe T Y, bYe⟩⟩
  have pr_Y_begin : Prp l.prog w K mg base 1 CY "begin" (spYB CY C) := ⟨⟨_, _, _, _, clCY, ⟨aYb, gYb, tYb, ⟨_, rYb⟩⟩, ok_Yard_begin FYb T Y, bYb⟩⟩
  have lY : LenC l.prog w K mg base 1 CY (spYL CY C) := ⟨⟨_, _, _, ok_Yard_len FYl T Y, aYl, iYl, bYl⟩⟩
  have eS : EqC l.prog w K mg base 1 C (StEq C) := ⟨⟨_, _, _, ok_Station_eq FSeq T S IS, aSeq, iSeq, bSeq⟩, neC, moC⟩
  have eY : EqC l.prog w K mg base 3 CY (YdEq CY C) := ⟨⟨_, _, _, ok_Yard_eq FYeq T Y0 Y IY eS, aYeq, iYeq, bYeq⟩, neCY, moCY⟩
  have c__law_right : CalG l.prog w K mg base 31 "_law_right" spLong := ⟨⟨_, _, _, ok_law_right F41 T c__law_draw c__law_term c__law_compiled c_compiled k_compiled c__law_shown c_station_for c__law_station c__law_own_nodes pr_Y_stations pr_Y_pipes pr_Y_exits pr_Y_begin lY eY mk_Yard mk_Station, m41, k41, b41⟩⟩
  exact ok_law F42 T c__law_pot c__law_right
theorem walk {l : PySem.W.OpenLaw} {n : Nat} {q : Program} {loose : List Str} {XP : (Str → Option Value) → Heap → Prop} {YP : World → Heap → Prop} {d : DefRec} {K : Params → PySem.W.Frag}
    (hn : l.most = some n) (hn2 : n ≤ sizeLine) (hdf : d.params.defaults = []) (hY : ∀ (w : World) (h : Heap), YP w h → (K w.params).In h)
    (F : ∀ (w : World) (mg : Str → Option Value) (fa : Addr) (h : Heap), (K w.params).In h → h.Ns mainGlobals mg → mg d.name = some (.ref fa) →
      ∃ fd : FuncData, (∀ (s : Shared) (u : Value), BindsTo s fd ⟨[u], []⟩ [("_law_script", u)]) ∧
        ∀ base : Heap, (K w.params).In base → base.Ns mainGlobals mg → FnG l.prog w (K w.params) mg base 32 fa fd ["_law_script"] (spLaw (K w.params))) :
    PySem.W.WalkO q loose XP YP l.row.toRowW d [] (fun f vs => PySem.call f vs) :=
  walkG (sp := spLaw) (x := "_law_script") (k := 32) hn hn2 hdf ⟨rfl, by decide, by decide⟩ hY F fun K H a ns _ _ hS => ⟨a, ns, rfl, hS, fun _ => rfl⟩
end FY


set_option Elab.async false
set_option maxRecDepth 100000
set_option maxHeartbeats 0
open PySem PySem.W PyProof.Rows
open_top hd22 for PySem.Challenge.rw_flowyard_k22_compiled_yards_by_own_going

set_option Elab.async false
open PySem PySem.W PyProof.Rows
set_option maxRecDepth 100000 in
set_option maxHeartbeats 0 in
theorem PySem.Challenge.cw_flowyard_k22_compiled_yards_by_own_going_holds : PySem.Challenge.rw_flowyard_k22_compiled_yards_by_own_going.Holds := by
  refine hd22 ?_
  k_fill
  refine FY.walk (l := PySem.Challenge.rw_flowyard_k22_compiled_yards_by_own_going) rfl (by decide) rfl (fun w h Y => PySem.W.kIn_of Y) ?F
  case F =>
    intro w mg fa h KX G hmg
    refine' FY.all_mk KX G hmg ?g_Station ?g_Draft ?g_Yard ?a1 ?l1 ?c1 ?k1 ?a2 ?l2 ?c2 ?k2 ?a3 ?l3 ?c3 ?k3 ?a4 ?l4 ?c4 ?k4 ?a5 ?l5 ?c5 ?k5 ?a6 ?l6 ?c6 ?k6 ?a7 ?l7 ?c7 ?k7 ?a8 ?l8 ?c8 ?k8 ?a9 ?l9 ?c9 ?k9 ?a10 ?l10 ?c10 ?k10 ?a11 ?l11 ?c11 ?k11 ?a12 ?l12 ?c12 ?k12 ?a13 ?l13 ?c13 ?k13 ?a14 ?l14 ?c14 ?k14 ?a15 ?l15 ?c15 ?k15 ?a16 ?l16 ?c16 ?k16 ?a17 ?l17 ?c17 ?k17 ?a18 ?l18 ?c18 ?k18 ?a19 ?l19 ?c19 ?k19 ?a20 ?l20 ?c20 ?k20 ?a21 ?l21 ?c21 ?k21 ?a22 ?l22 ?c22 ?k22 ?a23 ?l23 ?c23 ?k23 ?a24 ?l24 ?c24 ?k24 ?a25 ?l25 ?c25 ?k25 ?a26 ?l26 ?c26 ?k26 ?a27 ?l27 ?c27 ?k27 ?a28 ?l28 ?c28 ?k28 ?a29 ?l29 ?c29 ?k29 ?a30 ?l30 ?c30 ?k30 ?a31 ?l31 ?c31 ?k31 ?a32 ?l32 ?c32 ?k32 ?a33 ?l33 ?c33 ?k33 ?a34 ?l34 ?c34 ?k34 ?a35 ?l35 ?c35 ?k35 ?a36 ?l36 ?c36 ?k36 ?a37 ?l37 ?c37 ?k37 ?a38 ?l38 ?c38 ?k38 ?a39 ?l39 ?c39 ?k39 ?a40 ?l40 ?c40 ?k40 ?a41 ?l41 ?c41 ?k41 ?a42 ?l42 ?c42 ?k42 ?aSi ?iSi ?lSi ?cSi ?kSi ?aSins ?gSins ?tSins ?rSins ?lSins ?cSins ?kSins ?aSouts ?gSouts ?tSouts ?rSouts ?lSouts ?cSouts ?kSouts ?aSst ?iSst ?lSst ?cSst ?kSst ?aSeq ?iSeq ?lSeq ?cSeq ?kSeq ?aDi ?iDi ?lDi ?cDi ?kDi ?aDadd ?iDadd ?lDadd ?cDadd ?kDadd ?aDcop ?iDcop ?lDcop ?cDcop ?kDcop ?aDwh ?iDwh ?lDwh ?cDwh ?kDwh ?aDpa ?iDpa ?lDpa ?cDpa ?kDpa ?aDma ?iDma ?lDma ?cDma ?kDma ?aYi ?iYi ?lYi ?cYi ?kYi ?aYs ?gYs ?tYs ?rYs ?lYs ?cYs ?kYs ?aYp ?gYp ?tYp ?rYp ?lYp ?cYp ?kYp ?aYe ?gYe ?tYe ?rYe ?lYe ?cYe ?kYe ?aYb ?gYb ?tYb ?rYb ?lYb ?cYb ?kYb ?aYl ?iYl ?lYl ?cYl ?kYl ?aYeq ?iYeq ?lYeq ?cYeq ?kYeq ?hTY ?pgC ?hdC ?poC ?saC ?mkC ?kcC ?pgCD ?hdCD ?poCD ?saCD ?mkCD ?kcCD ?pgCY ?hdCY ?poCY ?saCY ?mkCY ?kcCY ?no_C_own_ins ?no_C_own_outs ?no_C_own_standings ?no_CD_own_stations ?no_CD_own_pipes ?no_CY_own_stations ?no_CY_own_pipes ?no_CY_own_exits ?no_CY_own_begin ?no_CY_own_into ?no_CY_own_onto ?ocC ?moC ?neC ?ocCY ?moCY ?neCY ?ocg ?oct ?me ?meg ?rd ?ga ?ms ?z_len ?z_isinstance ?z_all ?z_sum ?z_abs ?z_max ?z_min ?z_divmod ?z_repr ?z_int ?z_str ?z_tuple ?z_list ?z_zip ?z_range ?z_bool ?z_enumerate ?z_sorted ?g_SIGNS ?h_SIGNS ?g_OF_ONE ?h_OF_ONE ?g_OF_TWO ?h_OF_TWO ?g_TWOS ?h_TWOS ?g_IN ?g_LATE ?g_BY ?g_KEEP ?g_THEN ?g_MOST_NODES ?g_MOST_STANDINGS ?g_MOST_GIVEN ?g_MOST_TICKS ?g_LINES ?h_LINES ?y_LINES ?w_LINES ?n1 ?n2 ?n3
    (case g_Station => k_is)
    (case g_Draft => k_is)
    (case g_Yard => k_is)
    (case a1 => k_is)
    (case l1 => k_is)
    (case c1 => k_is)
    (case k1 => k_is)
    (case a2 => k_is)
    (case l2 => k_is)
    (case c2 => k_is)
    (case k2 => k_is)
    (case a3 => k_is)
    (case l3 => k_is)
    (case c3 => k_is)
    (case k3 => k_is)
    (case a4 => k_is)
    (case l4 => k_is)
    (case c4 => k_is)
    (case k4 => k_is)
    (case a5 => k_is)
    (case l5 => k_is)
    (case c5 => k_is)
    (case k5 => k_is)
    (case a6 => k_is)
    (case l6 => k_is)
    (case c6 => k_is)
    (case k6 => k_is)
    (case a7 => k_is)
    (case l7 => k_is)
    (case c7 => k_is)
    (case k7 => k_is)
    (case a8 => k_is)
    (case l8 => k_is)
    (case c8 => k_is)
    (case k8 => k_is)
    (case a9 => k_is)
    (case l9 => k_is)
    (case c9 => k_is)
    (case k9 => k_is)
    (case a10 => k_is)
    (case l10 => k_is)
    (case c10 => k_is)
    (case k10 => k_is)
    (case a11 => k_is)
    (case l11 => k_is)
    (case c11 => k_is)
    (case k11 => k_is)
    (case a12 => k_is)
    (case l12 => k_is)
    (case c12 => k_is)
    (case k12 => k_is)
    (case a13 => k_is)
    (case l13 => k_is)
    (case c13 => k_is)
    (case k13 => k_is)
    (case a14 => k_is)
    (case l14 => k_is)
    (case c14 => k_is)
    (case k14 => k_is)
    (case a15 => k_is)
    (case l15 => k_is)
    (case c15 => k_is)
    (case k15 => k_is)
    (case a16 => k_is)
    (case l16 => k_is)
    (case c16 => k_is)
    (case k16 => k_is)
    (case a17 => k_is)
    (case l17 => k_is)
    (case c17 => k_is)
    (case k17 => k_is)
    (case a18 => k_is)
    (case l18 => k_is)
    (case c18 => k_is)
    (case k18 => k_is)
    (case a19 => k_is)
    (case l19 => k_is)
    (case c19 => k_is)
    (case k19 => k_is)
    (case a20 => k_is)
    (case l20 => k_is)
    (case c20 => k_is)
    (case k20 => k_is)
    (case a21 => k_is)
    (case l21 => k_is)
    (case c21 => k_is)
    (case k21 => k_is)
    (case a22 => k_is)
    (case l22 => k_is)
    (case c22 => k_is)
    (case k22 => k_is)
    (case a23 => k_is)
    (case l23 => k_is)
    (case c23 => k_is)
    (case k23 => k_is)
    (case a24 => k_is)
    (case l24 => k_is)
    (case c24 => k_is)
    (case k24 => k_is)
    (case a25 => k_is)
    (case l25 => k_is)
    (case c25 => k_is)
    (case k25 => k_is)
    (case a26 => k_is)
    (case l26 => k_is)
    (case c26 => k_is)
    (case k26 => k_is)
    (case a27 => k_is)
    (case l27 => k_is)
    (case c27 => k_is)
    (case k27 => k_is)
    (case a28 => k_is)
    (case l28 => k_is)
    (case c28 => k_is)
    (case k28 => k_is)
    (case a29 => k_is)
    (case l29 => k_is)
    (case c29 => k_is)
    (case k29 => k_is)
    (case a30 => k_is)
    (case l30 => k_is)
    (case c30 => k_is)
    (case k30 => k_is)
    (case a31 => k_is)
    (case l31 => k_is)
    (case c31 => k_is)
    (case k31 => k_is)
    (case a32 => k_is)
    (case l32 => k_is)
    (case c32 => k_is)
    (case k32 => k_is)
    (case a33 => k_is)
    (case l33 => k_is)
    (case c33 => k_is)
    (case k33 => k_is)
    (case a34 => k_is)
    (case l34 => k_is)
    (case c34 => k_is)
    (case k34 => k_is)
    (case a35 => k_is)
    (case l35 => k_is)
    (case c35 => k_is)
    (case k35 => k_is)
    (case a36 => k_is)
    (case l36 => k_is)
    (case c36 => k_is)
    (case k36 => k_is)
    (case a37 => k_is)
    (case l37 => k_is)
    (case c37 => k_is)
    (case k37 => k_is)
    (case a38 => k_is)
    (case l38 => k_is)
    (case c38 => k_is)
    (case k38 => k_is)
    (case a39 => k_is)
    (case l39 => k_is)
    (case c39 => k_is)
    (case k39 => k_is)
    (case a40 => k_is)
    (case l40 => k_is)
    (case c40 => k_is)
    (case k40 => k_is)
    (case a41 => k_is)
    (case l41 => k_is)
    (case c41 => k_is)
    (case k41 => k_is)
    (case a42 => k_is)
    (case l42 => k_is)
    (case c42 => k_is)
    (case k42 => k_is)
    (case aSi => k_is)
    (case iSi => k_is)
    (case lSi => k_is)
    (case cSi => k_is)
    (case kSi => k_is)
    (case aSins => k_is)
    (case gSins => k_is)
    (case tSins => k_is)
    (case rSins => k_is)
    (case lSins => k_is)
    (case cSins => k_is)
    (case kSins => k_is)
    (case aSouts => k_is)
    (case gSouts => k_is)
    (case tSouts => k_is)
    (case rSouts => k_is)
    (case lSouts => k_is)
    (case cSouts => k_is)
    (case kSouts => k_is)
    (case aSst => k_is)
    (case iSst => k_is)
    (case lSst => k_is)
    (case cSst => k_is)
    (case kSst => k_is)
    (case aSeq => k_is)
    (case iSeq => k_is)
    (case lSeq => k_is)
    (case cSeq => k_is)
    (case kSeq => k_is)
    (case aDi => k_is)
    (case iDi => k_is)
    (case lDi => k_is)
    (case cDi => k_is)
    (case kDi => k_is)
    (case aDadd => k_is)
    (case iDadd => k_is)
    (case lDadd => k_is)
    (case cDadd => k_is)
    (case kDadd => k_is)
    (case aDcop => k_is)
    (case iDcop => k_is)
    (case lDcop => k_is)
    (case cDcop => k_is)
    (case kDcop => k_is)
    (case aDwh => k_is)
    (case iDwh => k_is)
    (case lDwh => k_is)
    (case cDwh => k_is)
    (case kDwh => k_is)
    (case aDpa => k_is)
    (case iDpa => k_is)
    (case lDpa => k_is)
    (case cDpa => k_is)
    (case kDpa => k_is)
    (case aDma => k_is)
    (case iDma => k_is)
    (case lDma => k_is)
    (case cDma => k_is)
    (case kDma => k_is)
    (case aYi => k_is)
    (case iYi => k_is)
    (case lYi => k_is)
    (case cYi => k_is)
    (case kYi => k_is)
    (case aYs => k_is)
    (case gYs => k_is)
    (case tYs => k_is)
    (case rYs => k_is)
    (case lYs => k_is)
    (case cYs => k_is)
    (case kYs => k_is)
    (case aYp => k_is)
    (case gYp => k_is)
    (case tYp => k_is)
    (case rYp => k_is)
    (case lYp => k_is)
    (case cYp => k_is)
    (case kYp => k_is)
    (case aYe => k_is)
    (case gYe => k_is)
    (case tYe => k_is)
    (case rYe => k_is)
    (case lYe => k_is)
    (case cYe => k_is)
    (case kYe => k_is)
    (case aYb => k_is)
    (case gYb => k_is)
    (case tYb => k_is)
    (case rYb => k_is)
    (case lYb => k_is)
    (case cYb => k_is)
    (case kYb => k_is)
    (case aYl => k_is)
    (case iYl => k_is)
    (case lYl => k_is)
    (case cYl => k_is)
    (case kYl => k_is)
    (case aYeq => k_is)
    (case iYeq => k_is)
    (case lYeq => k_is)
    (case cYeq => k_is)
    (case kYeq => k_is)
    (case hTY => k_is)
    (case pgC => k_is)
    (case hdC => k_is)
    (case poC => k_is)
    (case saC => k_is)
    (case mkC => k_is)
    (case kcC => k_is)
    (case pgCD => k_is)
    (case hdCD => k_is)
    (case poCD => k_is)
    (case saCD => k_is)
    (case mkCD => k_is)
    (case kcCD => k_is)
    (case pgCY => k_is)
    (case hdCY => k_is)
    (case poCY => k_is)
    (case saCY => k_is)
    (case mkCY => k_is)
    (case kcCY => k_is)
    (case no_C_own_ins => k_is)
    (case no_C_own_outs => k_is)
    (case no_C_own_standings => k_is)
    (case no_CD_own_stations => k_is)
    (case no_CD_own_pipes => k_is)
    (case no_CY_own_stations => k_is)
    (case no_CY_own_pipes => k_is)
    (case no_CY_own_exits => k_is)
    (case no_CY_own_begin => k_is)
    (case no_CY_own_into => k_is)
    (case no_CY_own_onto => k_is)
    (case ocC => k_is)
    (case moC => k_is)
    (case neC => k_is)
    (case ocCY => k_is)
    (case moCY => k_is)
    (case neCY => k_is)
    (case ocg => k_is)
    (case oct => k_is)
    (case me => k_is)
    (case meg => k_is)
    (case rd => k_is)
    (case ga => k_is)
    (case ms => k_is)
    (case z_len => k_is)
    (case z_isinstance => k_is)
    (case z_all => k_is)
    (case z_sum => k_is)
    (case z_abs => k_is)
    (case z_max => k_is)
    (case z_min => k_is)
    (case z_divmod => k_is)
    (case z_repr => k_is)
    (case z_int => k_is)
    (case z_str => k_is)
    (case z_tuple => k_is)
    (case z_list => k_is)
    (case z_zip => k_is)
    (case z_range => k_is)
    (case z_bool => k_is)
    (case z_enumerate => k_is)
    (case z_sorted => k_is)
    (case g_SIGNS => k_is)
    (case h_SIGNS => k_is)
    (case g_OF_ONE => k_is)
    (case h_OF_ONE => k_is)
    (case g_OF_TWO => k_is)
    (case h_OF_TWO => k_is)
    (case g_TWOS => k_is)
    (case h_TWOS => k_is)
    (case g_IN => k_is)
    (case g_LATE => k_is)
    (case g_BY => k_is)
    (case g_KEEP => k_is)
    (case g_THEN => k_is)
    (case g_MOST_NODES => k_is)
    (case g_MOST_STANDINGS => k_is)
    (case g_MOST_GIVEN => k_is)
    (case g_MOST_TICKS => k_is)
    (case g_LINES => k_is)
    (case h_LINES => k_is)
    (case y_LINES => exact ⟨⟨_, _, rfl, rfl⟩, ⟨_, _, rfl, rfl⟩, ⟨_, _, rfl, rfl⟩, trivial⟩)
    (case w_LINES => rfl)
    (case n1 => k_is)
    (case n2 => k_is)
    (case n3 => k_is)

