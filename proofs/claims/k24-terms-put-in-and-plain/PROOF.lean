import PyProof.Rows.All
import Wide.All
import OpenK.AllK
import Wide.FinOn
import HandS.ForMost
import HandS.Codes
import HandS.Walk
import HandS.IsInst
import HandS.WideBits
import HandS.Defaults
import KE.GoesEnum
import KE.KDictZip
import KE.KDictItemsList
import HandS.ListItems
import PyProof.ReprRoads
import PyProof.ReprText
import HandS.Exc
import HandS.ExcInit
import HandS.ExcField
import HandS.ClsMeth
import KE.KExcInit
import PyProof.ExcBaseAll.ArithmeticError
import HandS.ExcOwn
import PySem.Challenge.RW_flowyard_k24_terms_put_in_and_plain
import PyProof.NoPylong
import HandS.WordsExc
import HandS.Lambda
import HandS.EndTab
import HandS.EndBits
import KE.KNest
namespace FY
inductive W1 where
  | no | twice | half | change | count
  deriving DecidableEq
inductive Tm where
  | inn
  | one (w : W1) (t : Tm)
  | late (b : Bool) (t : Tm)
  | byy (a b c d : Bool) (t u : Tm)
  | keep (t u : Tm)
  | thn (t u : Tm)
def Tm.nodes : Tm → Nat
  | .inn => 1
  | .one _ t => t.nodes + 1
  | .late _ t => t.nodes + 1
  | .byy _ _ _ _ t u => t.nodes + u.nodes + 1
  | .keep t u => t.nodes + u.nodes + 1
  | .thn t u => t.nodes + u.nodes + 1
theorem Tm.nodes_pos (t : Tm) : 1 ≤ t.nodes := by cases t <;> simp [Tm.nodes]
def halfL : List Bool → List Bool
  | _ :: y :: r => y :: halfL r
  | _ => []
def chgL (l : Bool) : List Bool → List Bool
  | [] => []
  | x :: r => (x != l) :: chgL x r
def cntL (l : Bool) : List Bool → List Bool
  | [] => []
  | x :: r => (x != l) :: cntL (x != l) r
def dblL : List Bool → List Bool
  | [] => []
  | x :: r => x :: x :: dblL r
def byL (a b c d : Bool) : List Bool → List Bool → List Bool
  | x :: r, y :: s => (if x then (if y then d else c) else (if y then b else a)) :: byL a b c d r s
  | _, _ => []
def keepL : List Bool → List Bool → List Bool
  | x :: r, y :: s => if y then x :: keepL r s else keepL r s
  | _, _ => []
def lateL (b : Bool) (f : List Bool) : List Bool := (b :: f).take f.length
def oneL : W1 → List Bool → List Bool
  | .no, f => f.map (!·)
  | .twice, f => dblL f
  | .half, f => halfL f
  | .change, f => chgL false f
  | .count, f => cntL false f
def flow : Tm → List Bool → List Bool
  | .inn, s => s
  | .one w t, s => oneL w (flow t s)
  | .late b t, s => lateL b (flow t s)
  | .byy a b c d t u, s => byL a b c d (flow t s) (flow u s)
  | .keep t u, s => keepL (flow t s) (flow u s)
  | .thn t u, s => flow u (flow t s)
/-! lengths -/
theorem halfL_len : ∀ f : List Bool, (halfL f).length ≤ f.length
  | [] => by simp [halfL]
  | [_] => by simp [halfL]
  | _ :: y :: r => by have := halfL_len r; simp [halfL]; omega
theorem chgL_len : ∀ (f : List Bool) (l : Bool), (chgL l f).length = f.length
  | [], _ => rfl
  | x :: r, l => by simp [chgL, chgL_len r x]
theorem cntL_len : ∀ (f : List Bool) (l : Bool), (cntL l f).length = f.length
  | [], _ => rfl
  | x :: r, l => by simp [cntL, cntL_len r]
theorem dblL_len : ∀ f : List Bool, (dblL f).length = 2 * f.length
  | [] => rfl
  | x :: r => by simp [dblL, dblL_len r]; omega
theorem byL_len (a b c d : Bool) : ∀ f g : List Bool, (byL a b c d f g).length ≤ f.length
  | [], _ => by simp [byL]
  | _ :: _, [] => by simp [byL]
  | x :: r, y :: s => by have := byL_len a b c d r s; simp [byL]; omega
theorem keepL_len : ∀ f g : List Bool, (keepL f g).length ≤ f.length
  | [], _ => by simp [keepL]
  | _ :: _, [] => by simp [keepL]
  | x :: r, y :: s => by have := keepL_len r s; cases y <;> simp [keepL] <;> omega
theorem lateL_len (b : Bool) (f : List Bool) : (lateL b f).length = f.length := by simp [lateL]
theorem oneL_len (w : W1) (f : List Bool) : (oneL w f).length ≤ 2 * f.length := by
  cases w with
  | no => simp [oneL]; omega
  | twice => simp [oneL, dblL_len]
  | half => have := halfL_len f; simp [oneL]; omega
  | change => simp [oneL, chgL_len]; omega
  | count => simp [oneL, cntL_len]; omega
theorem flow_len : ∀ (t : Tm) (s : List Bool), (flow t s).length ≤ 2 ^ (t.nodes - 1) * s.length := by
  intro t
  induction t with
  | inn => intro s; simp [flow, Tm.nodes]
  | one w t ih =>
    intro s
    have h1 := oneL_len w (flow t s)
    have h2 := ih s
    have h3 := t.nodes_pos
    have e : 2 ^ (t.nodes + 1 - 1) = 2 * 2 ^ (t.nodes - 1) := by
      rw [show t.nodes + 1 - 1 = (t.nodes - 1) + 1 by omega, Nat.pow_succ]; omega
    simp only [flow, Tm.nodes, e, Nat.mul_assoc]
    omega
  | late b t ih =>
    intro s
    have h2 := ih s
    have h3 := t.nodes_pos
    have e : 2 ^ (t.nodes + 1 - 1) = 2 * 2 ^ (t.nodes - 1) := by
      rw [show t.nodes + 1 - 1 = (t.nodes - 1) + 1 by omega, Nat.pow_succ]; omega
    simp only [flow, Tm.nodes, lateL_len, e, Nat.mul_assoc]
    omega
  | byy a b c d t u ih1 ih2 =>
    intro s
    have h1 := byL_len a b c d (flow t s) (flow u s)
    have h2 := ih1 s
    have h3 := t.nodes_pos
    have e : 2 ^ (t.nodes - 1) ≤ 2 ^ (t.nodes + u.nodes + 1 - 1) := Nat.pow_le_pow_right (by decide) (by omega)
    have e2 := Nat.mul_le_mul_right s.length e
    simp only [flow, Tm.nodes]
    omega
  | keep t u ih1 ih2 =>
    intro s
    have h1 := keepL_len (flow t s) (flow u s)
    have h2 := ih1 s
    have e : 2 ^ (t.nodes - 1) ≤ 2 ^ (t.nodes + u.nodes + 1 - 1) := Nat.pow_le_pow_right (by decide) (by omega)
    have e2 := Nat.mul_le_mul_right s.length e
    simp only [flow, Tm.nodes]
    omega
  | thn t u ih1 ih2 =>
    intro s
    have h1 := ih1 s
    have h2 := ih2 (flow t s)
    have h3 := t.nodes_pos
    have h4 := u.nodes_pos
    have e : 2 ^ (u.nodes - 1) * 2 ^ (t.nodes - 1) ≤ 2 ^ (t.nodes + u.nodes + 1 - 1) := by
      rw [← Nat.pow_add]; exact Nat.pow_le_pow_right (by decide) (by omega)
    have e1 := Nat.mul_le_mul_left (2 ^ (u.nodes - 1)) h1
    have e2 := Nat.mul_le_mul_right s.length e
    rw [← Nat.mul_assoc] at e1
    simp only [flow, Tm.nodes]
    omega
/-! beginnings -/
theorem halfL_pre : ∀ f g : List Bool, halfL f <+: halfL (f ++ g)
  | [], g => by simp [halfL]
  | [x], g => by simp [halfL]
  | x :: y :: r, g => by
    have := halfL_pre r g
    simpa [halfL, List.prefix_cons_inj] using this
theorem chgL_pre : ∀ (f g : List Bool) (l : Bool), chgL l f <+: chgL l (f ++ g)
  | [], g, l => by simp [chgL]
  | x :: r, g, l => by have := chgL_pre r g x; simpa [chgL, List.prefix_cons_inj] using this
theorem cntL_pre : ∀ (f g : List Bool) (l : Bool), cntL l f <+: cntL l (f ++ g)
  | [], g, l => by simp [cntL]
  | x :: r, g, l => by have := cntL_pre r g (x != l); simpa [cntL, List.prefix_cons_inj] using this
theorem dblL_pre : ∀ (f g : List Bool), dblL f <+: dblL (f ++ g)
  | [], g => by simp [dblL]
  | x :: r, g => by have := dblL_pre r g; simpa [dblL, List.prefix_cons_inj] using this
theorem byL_pre (a b c d : Bool) : ∀ (f g f' g' : List Bool), byL a b c d f g <+: byL a b c d (f ++ f') (g ++ g')
  | [], g, f', g' => by simp [byL]
  | x :: r, [], f', g' => by simp [byL]
  | x :: r, y :: s, f', g' => by have := byL_pre a b c d r s f' g'; simpa [byL, List.prefix_cons_inj] using this
theorem keepL_pre : ∀ (f g f' g' : List Bool), keepL f g <+: keepL (f ++ f') (g ++ g')
  | [], g, f', g' => by simp [keepL]
  | x :: r, [], f', g' => by simp [keepL]
  | x :: r, y :: s, f', g' => by
    have := keepL_pre r s f' g'
    cases y <;> simpa [keepL, List.prefix_cons_inj] using this
theorem lateL_pre (b : Bool) (f g : List Bool) : lateL b f <+: lateL b (f ++ g) := by
  unfold lateL
  have h : (b :: f).take f.length = ((b :: (f ++ g)).take (f ++ g).length).take f.length := by
    rw [List.take_take, Nat.min_eq_left (by simp)]
    cases f with
    | nil => rfl
    | cons x r =>
      simp only [List.length_cons, List.take_succ_cons, List.cons_append]
      congr 1
      rw [show (x :: (r ++ g)) = (x :: r) ++ g from rfl, List.take_append_of_le_length (by simp)]
  rw [h]
  exact List.take_prefix _ _
theorem oneL_pre (w : W1) (f g : List Bool) : oneL w f <+: oneL w (f ++ g) := by
  cases w with
  | no => simp [oneL]
  | twice => exact dblL_pre f g
  | half => exact halfL_pre f g
  | change => exact chgL_pre f g false
  | count => exact cntL_pre f g false
theorem flow_pre : ∀ (t : Tm) (s g : List Bool), flow t s <+: flow t (s ++ g) := by
  intro t
  induction t with
  | inn => intro s g; simp [flow]
  | one w t ih =>
    intro s g
    obtain ⟨r, hr⟩ := ih s g
    simp only [flow, ← hr]
    exact oneL_pre w _ _
  | late b t ih =>
    intro s g
    obtain ⟨r, hr⟩ := ih s g
    simp only [flow, ← hr]
    exact lateL_pre b _ _
  | byy a b c d t u ih1 ih2 =>
    intro s g
    obtain ⟨r, hr⟩ := ih1 s g
    obtain ⟨q, hq⟩ := ih2 s g
    simp only [flow, ← hr, ← hq]
    exact byL_pre a b c d _ _ _ _
  | keep t u ih1 ih2 =>
    intro s g
    obtain ⟨r, hr⟩ := ih1 s g
    obtain ⟨q, hq⟩ := ih2 s g
    simp only [flow, ← hr, ← hq]
    exact keepL_pre _ _ _ _
  | thn t u ih1 ih2 =>
    intro s g
    obtain ⟨r, hr⟩ := ih1 s g
    simp only [flow, ← hr]
    exact ih2 _ _
theorem flow_nil : ∀ t : Tm, flow t [] = [] := by
  intro t
  have h := flow_len t []
  simpa using h
end FY

set_option Elab.async false
set_option linter.all false
set_option maxRecDepth 100000
set_option maxHeartbeats 4000000
/-! further rules: zip of two texts, extend by a tuple, text * int, calls by keywords alone -/
namespace FYR
open PySem PySem.Spec PyProof.Rows L2

/-! ### zip of two texts -/
def Itzs (x y : Str) : It :=
  ⟨fun i _ => i < min x.cps.size y.cps.size,
    fun i H v H' => ∃ (T : Addr) (c d : Nat), v = .ref T ∧ H T = none ∧ H' = upd H T (.tup [.str ⟨#[c]⟩, .str ⟨#[d]⟩]) ∧ x.cps[i]? = some c ∧ y.cps[i]? = some d,
    fun i _ => i = min x.cps.size y.cps.size⟩
theorem turn_zipS {P : Program} {w : World} {K : PySem.W.Frag} {elts : List Expr} {kk : Nat} {tpos : Pos} {x y : Str} {t u : Tok} {z TI TO i1 i2 : Addr} (S : ZipSep2 z TI TO i1 i2 [i1] [i2]) :
    Turn P w K (.Tuple elts kk tpos) (Itzs x y) (z :: TI :: TO :: ([i1] ++ [i2])) z (fun i h => IsZip h z TI TO .none ∧ IsTupOf2 h TI (.ref i1) (.ref i2) ∧ (∃ a1 a2, IsTupOf2 h TO a1 a2) ∧ h.IsStrIter i1 (strIterType x) x t i ∧ h.IsStrIter i2 (strIterType y) y u i) where
  mem := by simp
  obj := fun i h st c hc => by
    obtain ⟨hz, hTI, ⟨x', y', hTO⟩, ⟨o1, e1, _, d1⟩, ⟨o2, e2, _, d2⟩⟩ := st
    have e' : c = z ∨ c = TI ∨ c = TO ∨ c = i1 ∨ c = i2 := by simpa using hc
    rcases e' with q | q | q | q | q
    · rw [q]; exact ⟨_, hz, fun v q => nomatch q⟩
    · rw [q]; exact ⟨_, hTI, fun v q => nomatch q⟩
    · rw [q]; exact ⟨_, hTO, fun v q => nomatch q⟩
    · rw [q]; exact ⟨o1, e1, fun v q => by rw [d1] at q; cases q⟩
    · rw [q]; exact ⟨o2, e2, fun v q => by rw [d2] at q; cases q⟩
  keep := fun i h h' st k => by
    obtain ⟨hz, hTI, ⟨x', y', hTO⟩, ⟨o1, e1, c1, d1⟩, ⟨o2, e2, c2, d2⟩⟩ := st
    exact ⟨k z (by simp) _ hz, k TI (by simp) _ hTI, ⟨x', y', k TO (by simp) _ hTO⟩, ⟨o1, k i1 (by simp) _ e1, c1, d1⟩, ⟨o2, k i2 (by simp) _ e2, c2, d2⟩⟩
  item := by
    intro X hP hw hK hc i pins s σ H E I hf st hg
    subst hP hw hK
    have hh : X.A.in1.handled = none := I.ok.hd hc
    have W := WalksT.zipD2 (prog := X.prog) (w := X.w) (A := X.A) S (Draws.text hh i1 x t) (Draws.text hh i2 y u)
    refine W.item i s _ _ hg st fun T vals h' tk hp hT ht mid hk => ?_
    obtain ⟨x1, x2, ⟨c, t1, hc1, rfl⟩, ⟨d, t2, hd1, rfl⟩, rfl⟩ := hp
    refine ⟨_, rfl, W.go elts kk tpos i T { s with heap := h', toks := tk } _ _ mid fun h'' st'' hk2 => ?_⟩
    obtain ⟨oT, eT, cT, nT, dT⟩ := ht
    have hT2 : h''.get? T = some oT := hk2 _ _ (W.apart _ _ _ mid) eT
    have new : ObjOk X.prog X.w (upd H T (.tup [.str ⟨#[c]⟩, .str ⟨#[d]⟩])) h'' T (.tup [.str ⟨#[c]⟩, .str ⟨#[d]⟩]) :=
      ⟨by show 2 ≤ sizeLine; decide, [_, _], .cons ⟨_, rfl⟩ (.cons ⟨_, rfl⟩ .nil), ⟨_, hT2, cT, nT, dT⟩⟩
    have sub : ∀ b ∈ ([z, TO, i1, i2] : List Addr), b ∈ (z :: TI :: TO :: ([i1] ++ [i2])) := fun b hb => W.sub b hb
    have I1 : Inv X pins σ (upd H T (.tup [.str ⟨#[c]⟩, .str ⟨#[d]⟩])) { s with heap := h'', toks := tk } :=
      I.turnedNew (t' := tk) (ch := [z, TO, i1, i2]) (fun c o hb q => hk2 c o hb (hk c o hb q)) (fun b hb => hf b (sub b hb)) hT new
    refine ⟨.ref T, _, I1, rfl, ⟨T, c, d, rfl, I.hok.fresh hT, rfl, hc1, hd1⟩, st'', fun b hb => ?_⟩
    have hlt : b < s.heap.objs.size := by
      obtain ⟨hz, hTI, ⟨x', y', hTO⟩, ⟨o1, e1, c1, d1⟩, ⟨o2, e2, c2, d2⟩⟩ := st
      have e' : b = z ∨ b = TI ∨ b = TO ∨ b = i1 ∨ b = i2 := by simpa using hb
      rcases e' with q | q | q | q | q
      · rw [q]; exact Heap.lt_size hz
      · rw [q]; exact Heap.lt_size hTI
      · rw [q]; exact Heap.lt_size hTO
      · rw [q]; exact Heap.lt_size e1
      · rw [q]; exact Heap.lt_size e2
    rw [upd_ne (Nat.ne_of_lt (Nat.lt_of_lt_of_le hlt hT))]
    exact (hf b hb).1
  done := by
    intro X hP hw hK hc i pins s σ H E I hf st hg
    subst hP hw hK
    have hh : X.A.in1.handled = none := I.ok.hd hc
    have W := WalksT.zipD2 (prog := X.prog) (w := X.w) (A := X.A) S (Draws.text hh i1 x t) (Draws.text hh i2 y u)
    have sub : ∀ b ∈ ([z, TO, i1, i2] : List Addr), b ∈ (z :: TI :: TO :: ([i1] ++ [i2])) := fun b hb => W.sub b hb
    have hi : i = min x.cps.size y.cps.size := hg
    subst hi
    exact W.done s _ _ st fun h' tk hk => ⟨rfl, I.turnedL (t' := tk) (ch := [z, TO, i1, i2]) (fun c o hb q => hk c o hb q) (fun b hb => hf b (sub b hb))⟩
  self := fun A i s Q E st h => wpAny_pyIter_zip st.1 h

def iZipS (ta : TA) : TI := fun σ H R => ta σ H fun vs H1 => ∃ x y, vs = [.str x, .str y] ∧ R (Itzs x y) H1
theorem pi_zipS {X : Cx} {e e2 : Expr} {ta : TA} {p pos tpos : Pos} {elts : List Expr} {kk : Nat} (hg : Gl X "zip") (hm : X.mg "zip" = none) (ha : PA X [e, e2] ta)
    (hs : starEach [e, e2] X.env = (false, eval e X.env) :: starEach [e2] X.env := by rfl) (hpl : (backTo pos (starEach [e2] X.env)).any (·.1) = false := by rfl) :
    PI X (.Tuple elts kk tpos) (.Call (.Name "zip" p) [e, e2] [] pos) (iZipS ta) := by
  refine ⟨fun pins s σ H R I h => ?_⟩
  refine Call_ (ld_blt I hg hm PyProof.Rows.boot_zip (PyProof.Rows.callWith_type1 (thn (ha.run pos pins s σ H _ I h) fun us s1 ⟨vs, H1, I1, r1, q1⟩ => ?_) hs hpl))
  obtain ⟨x, y, ex, q1⟩ := q1
  subst ex
  cases r1 with
  | cons r rr =>
    cases rr with
    | cons r' rr =>
      cases rr
      obtain ⟨t, rfl⟩ := r
      obtain ⟨u, rfl⟩ := r'
      have fresh5 : ∀ c, c ∈ ((s1.heap.objs.size + 4) :: (s1.heap.objs.size + 2) :: (s1.heap.objs.size + 3) :: ([s1.heap.objs.size] ++ [s1.heap.objs.size + 1])) → FpOk X pins H1 c := fun c hcm => by
        have e' : c = s1.heap.objs.size + 4 ∨ c = s1.heap.objs.size + 2 ∨ c = s1.heap.objs.size + 3 ∨ c = s1.heap.objs.size ∨ c = s1.heap.objs.size + 1 := by simpa using hcm
        have hle : s1.heap.objs.size ≤ c := by
          rcases e' with z | z | z | z | z
          · rw [z]; exact Nat.le_add_right _ _
          · rw [z]; exact Nat.le_add_right _ _
          · rw [z]; exact Nat.le_add_right _ _
          · rw [z]; exact Nat.le_refl _
          · rw [z]; exact Nat.le_add_right _ _
        exact I1.fpOk hle (I1.hok.fresh hle)
      refine zip_begins2 (begins_text x t) (begins_text y u) trivial trivial fun h' hz hTI hTO h1 h2 hsz hk => wpAny_pyIter_zip hz ?_
      have I2 : Inv X pins σ H1 { s1 with heap := h' } := I1.kept (t' := s1.toks) hk
      exact ⟨s1.heap.objs.size + 4, _, _, _, H1, rfl, I2, turn_zipS (x := x) (y := y) (t := t) (u := u) (zip_sep2 (fp1 := []) (fp2 := []) (by simp) (by simp)), ⟨hz, hTI, ⟨_, _, hTO⟩, ⟨_, h1, rfl, rfl⟩, ⟨_, h2, rfl, rfl⟩⟩, fresh5, q1⟩
theorem walk_zipS {x y : Str} : Walk (Itzs x y) (min x.cps.size y.cps.size) (fun _ => True) (fun i H v H' => ∃ (T : Addr) (c d : Nat), v = .ref T ∧ H T = none ∧ H' = upd H T (.tup [.str ⟨#[c]⟩, .str ⟨#[d]⟩]) ∧ x.cps[i]? = some c ∧ y.cps[i]? = some d) :=
  ⟨fun _ _ hi _ => hi, fun _ _ => rfl, fun _ _ _ _ _ _ y => y⟩

/-! ### extend by a tuple -/
theorem list_extend_tup (l : Addr) (items : Array Value) (n : Nat) (b : Addr) (items2 : Array Value) (n2 : Nat) (db : Option Addr) (sb : Array (Option Value)) (hs0 : ¬(!items.isEmpty && Builtin.List.listTooLong (items.size + items2.size)) = true) (hs1 : items.size ≤ sizeLine) (hs2 : items.size + items2.size ≤ sizeLine + 1) :
    Meets (Builtin.«list.extend» ⟨[.ref l, .ref b], []⟩) (fun _ R s => s.heap.get? l = some { cls := .type "list", dict := none, data := .seq items n, slots := #[] } ∧ s.heap.get? b = some { cls := .type "tuple", dict := db, data := .seq items2 n2, slots := sb } ∧ R (.ok (.ret Value.none)) { s with heap := s.heap.update l (Obj.mapSeq fun x => x ++ items2), toks := s.toks }) :=
  .of_wp fun prog w A R s h => by
    obtain ⟨hp, g, d, tk, os⟩ := s; obtain ⟨hl, hb, h⟩ := h; have f1 := AutoSeq1.idx_int; have f2 := AutoSeq1.sub_tuple_tuple; have f3 := AutoSeq1.sub_list_list; have f4 := AutoSeq1.sub_tuple_list; have f5 := AutoSeq1.sub_list_tuple;
    have hz' : (items ++ items2).size ≤ sizeLine + 1 := by rw [Array.size_append]; exact hs2
    wp_walk using (wpAny_updateSeq hl rfl (hz := hs1) (_hz' := hz')), AutoSeq1.wpAny_loadPart' hl, AutoSeq1.wpAny_loadPart' hb; exact ⟨_, rfl, h⟩
def rExtendT (K : PySem.W.Frag) : V → List V → Hp → VK → Prop := fun x vs H Q => ∃ l b xs zs, x = .ref l ∧ vs = [.ref b] ∧ H l = some (.lst xs) ∧ SqT K H b zs ∧ xs.length + zs.length ≤ sizeLine ∧ Q .non (upd H l (.lst (xs ++ zs)))
theorem mt_extendT {X : Cx} : MtM X "list.extend" (rExtendT X.K) := by
  intro pins s σ H x vs v us Q I rx rv h
  obtain ⟨l, b, xs, zs, rfl, rfl, hH, hB, hz, q⟩ := h
  cases rx
  obtain ⟨u, rfl, ru⟩ := rv.one
  cases ru
  obtain ⟨z, its, n, r, hl, e⟩ := I.lstM hH
  obtain ⟨its2, r2, p2, z2⟩ := I.tuple hB
  have l2 := r2.length
  obtain ⟨o2, e2, c2, n2, d2⟩ := p2
  have hsz : its.toArray.size + its2.toArray.size ≤ sizeLine := by rw [List.size_toArray, List.size_toArray]; omega
  have hlong : ¬ (!its.toArray.isEmpty && Builtin.List.listTooLong (its.toArray.size + its2.toArray.size)) = true := by
    rw [notLongL hsz, Bool.and_false]
    exact Bool.false_ne_true
  obtain ⟨cls2, db, dat2, sb⟩ := o2
  have c2' : cls2 = .type "tuple" := c2
  have d2' : dat2 = .seq its2.toArray n2 := d2
  subst c2' d2'
  refine call_meets F.slot_list_extend ⟨_, e, rfl⟩ F.entry_list_extend (F.args_list_extend_2 _ _)
    (list_extend_tup l its.toArray n b its2.toArray n2 db sb hlong (by rw [List.size_toArray]; omega) (by omega)) ⟨e, e2, ?_⟩
  refine ⟨.non, _, I.lset (its' := its ++ its2) hH e (by simp) (r.append r2) ?_, rfl, q⟩
  rw [List.length_append]
  omega

/-! ### text * int -/
def rMulS : R2 := fun x y H Q => ∃ z k, x = .str z ∧ y = .int k ∧ MulOk z k ∧ Q (.str (Txt.mul z k)) H
theorem op_mul_str {X : Cx} : OpR X (binaryOp .Mult) rMulS := by
  intro pins s σ H x y v u Q I rx ry h
  obtain ⟨z, k, rfl, rfl, hok, q⟩ := h
  obtain ⟨t, rfl⟩ := rx
  obtain ⟨t', rfl⟩ := ry
  exact SB.mul hok fun t' k => ⟨.str _, H, I.tok _, ⟨_, rfl⟩, q⟩

/-! ### f(k = v, ..) -/
section
variable {X : Cx} {CX : CXT} {k : Nat} {f C : Addr} {fd : FuncData} {ps ks : List Str} {sp : Sp} {E : XK} {x m : Str} {p pos apos kpos : Pos} {kws : List Keyword} {tk : TA} {g : List Value → List Value → List Value} {gV : List V → List V → List V}
def tCallN0 (n : Nat) (sp : Sp) (gV : List V → List V → List V) (E : XK) (tk : TA) : TE := fun σ H Q => tk σ H fun zs H2 => zs.length = n ∧ sp (gV [] zs) H2 Q E
theorem pe_callN0 (F : FnOk X.prog X.w X.K X.mg X.base CX k f fd ps sp) (hr : Room k X.A) (hg : Gl X x) (hm : X.mg x = some (.ref f)) (hk : PySem.W.keepIn X.K (.ref f) = true) (hb : KBn X.K fd ps 0 ks g gV) (hx : Passes CX X E)
    (hkw : PK X kws tk) (hall : (backToKw pos (keywordEach kws X.env)).all (·.1.isSome) = true := by rfl) (hks : (backToKw pos (keywordEach kws X.env)).filterMap (·.1) = ks := by rfl)
    (hdb : (x == ("__debug__" : Str)) = false := by decide)
    (hpl : ((backTo pos (starEach [] X.env)).any (·.1) || (backToKw pos (keywordEach kws X.env)).any (·.1.isNone)) = false := by rfl) :
    PE X (.Call (.Name x p) [] kws pos) (tCallN0 ks.length sp gV E tk) := by
  refine ⟨fun pins s σ H Q I h => ?_⟩
  refine wpAny_Call_Name_kw (ld_glob I hg hm ?_ hdb)
  refine PySem.W.callWith_KW0 (h₀ := X.base) I.ok.mod.kin hk hall ?_ hpl
  refine thn (hkw.run pos pins s σ H _ I h) fun ws s2 ⟨zs, H2, I2, rz, l2, q2⟩ => ⟨I2.kIn, ?_⟩
  rw [hks]
  exact run_fnN (us := []) (vs := []) F hr hb hx I2 .nil rz rfl l2 q2
end
end FYR

set_option Elab.async false
set_option linter.all false
set_option maxRecDepth 100000
set_option maxHeartbeats 4000000
/-! list(zip(x, y)) of two texts -/
namespace FYR
open PySem PySem.Spec PyProof.Rows L2
section
variable {prog : Program} {w : World} {A : Around} {E : Value → Shared → Prop} {s : Shared} {z TI TO i1 i2 : Addr} {fp1 fp2 : List Addr} {n1 n2 i : Nat} {P1 P2 : Nat → Value → Prop} {St1 St2 : Nat → Heap → Prop} {T : Addr} {f : Bool} {oT : Obj}
theorem zipH_next_item {Q : Value → Shared → Prop} (S : ZipSep2 z TI TO i1 i2 fp1 fp2) (D1 : Draws prog w A i1 fp1 n1 P1 St1) (D2 : Draws prog w A i2 fp2 n2 P2 St2)
    (hz : IsZipHeld s.heap z TI TO T f) (hT : s.heap.get? T = some oT) (hTI : IsTupOf2 s.heap TI (.ref i1) (.ref i2)) (st1 : St1 i s.heap) (st2 : St2 i s.heap) (hlt1 : i < n1) (hlt2 : i < n2)
    (hQ : ∀ x1 x2 h' tk, P1 i x1 → P2 i x2 → IsZipHeld h' z TI TO T true → St1 (i + 1) h' → St2 (i + 1) h' → IsTupOf2 h' s.heap.objs.size x1 x2 → h'.objs.size = s.heap.objs.size + 1 →
      (∀ c o, c ≠ z → c ≠ i1 → c ≠ i2 → s.heap.get? c = some o → h'.get? c = some o) → Q (.ref s.heap.objs.size) { s with heap := h', toks := tk }) :
    wpAny (model prog w) A (Builtin.«zip.__next__» ⟨[.ref z], []⟩) (fun fin s' => ∃ v, fin = .done (.ret v) ∧ Q v s') E s := by
  obtain ⟨hp, g, d, tk0, os⟩ := s
  show wpAny _ _ (field (.ref z) 2 >>= _) _ _ _
  refine wpAny_bind (wpAny_field hz rfl (x := .bool false) rfl ?_)
  show wpAny _ _ (field (.ref z) 3 >>= _) _ _ _
  refine wpAny_bind (wpAny_field hz rfl (x := .ref TI) rfl ?_)
  refine wpAny_bind (wpAny_seqItems hTI rfl ?_)
  show wpAny _ _ (Builtin.SmallTypes.ownedTupleIsFree (.ref z) >>= _) _ _ _
  refine wpAny_bind (wpAny_tupleHeld_zip hz hT fun h₁ hz₁ hs₁ => ?_)
  simp only [Bool.false_eq_true, if_false]
  refine wpAny_bind ?_
  rw [← Array.forIn_toList]
  simp only [List.forIn_cons, List.forIn_nil]
  refine wpAny_bind (wpAny_bind (wpAny_holding ?_))
  show wpAny _ _ (Builtin.SmallTypes.nextOf (.ref i1) >>= _) _ _ ⟨h₁, g, d, tk0, os⟩
  refine wpAny_bind (D1.item i _ _ _ hlt1 (D1.over st1 hs₁ S.zf1) fun x1 h₂ tk1 hx1 sn1 hs₂ => wpAny_pure ?_)
  replace hs₂ : Heap.SameBut i1 h₁ h₂ := hs₂
  refine wpAny_pure ?_
  refine wpAny_bind (wpAny_bind (wpAny_holding ?_))
  show wpAny _ _ (Builtin.SmallTypes.nextOf (.ref i2) >>= _) _ _ ⟨h₂, g, d, tk1, os⟩
  refine wpAny_bind (D2.item i _ _ _ hlt2 (D2.over (D2.over st2 hs₁ S.zf2) hs₂ S.sep1_2) fun x2 h₃ tk2 hx2 sn2 hs₃ => wpAny_pure ?_)
  replace hs₃ : Heap.SameBut i2 h₂ h₃ := hs₃
  refine wpAny_pure (wpAny_pure ?_)
  show wpAny _ _ (newTuple [x1, x2] >>= _) _ _ ⟨h₃, g, d, tk2, os⟩
  refine wpAny_bind (wpAny_newTuple ?_)
  have hsz : h₃.objs.size = hp.objs.size := by rw [hs₃.1, hs₂.1, hs₁.1]
  have hz₃ : IsZipHeld h₃ z TI TO T true := hs₃.extBut _ _ S.zi2 (hs₂.extBut _ _ S.zi1 hz₁)
  have hk : ∀ c o, c ≠ z → c ≠ i1 → c ≠ i2 → hp.get? c = some o → h₃.get? c = some o := fun c o c1 c2 c3 e => hs₃.extBut _ _ c3 (hs₂.extBut _ _ c2 (hs₁.extBut _ _ c1 e))
  have hj1 : St1 (i + 1) h₃ := D1.over sn1 hs₃ S.sep2_1
  refine wpAny_pure ⟨_, rfl, ?_⟩
  show Q (.ref h₃.objs.size) ⟨h₃.push { cls := .type "tuple", data := .seq #[x1, x2] }, g, d, tk2, os⟩
  have hp' : IsTupOf2 (h₃.push { cls := .type "tuple", data := .seq #[x1, x2] }) h₃.objs.size x1 x2 := Heap.get?_push_size _ rfl
  have hz4 : (h₃.push { cls := .type "tuple", data := .seq #[x1, x2] }).objs.size = h₃.objs.size + 1 := Heap.size_push ..
  rw [hsz] at hp' hz4 ⊢
  exact hQ x1 x2 _ tk2 hx1 hx2 (Heap.get?_push_of_some _ hz₃) (D1.frame _ _ _ hj1 fun b _ o e => Heap.get?_push_of_some _ e) (D2.frame _ _ _ sn2 fun b _ o e => Heap.get?_push_of_some _ e) hp' hz4 fun c o c1 c2 c3 e => Heap.get?_push_of_some _ (hk c o c1 c2 c3 e)
theorem zipH_next_end {Q : Fin → Shared → Prop} (S : ZipSep2 z TI TO i1 i2 fp1 fp2) (D1 : Draws prog w A i1 fp1 n1 P1 St1) (D2 : Draws prog w A i2 fp2 n2 P2 St2)
    (hz : IsZipHeld s.heap z TI TO T f) (hT : s.heap.get? T = some oT) (hTI : IsTupOf2 s.heap TI (.ref i1) (.ref i2)) (st1 : St1 i s.heap) (st2 : St2 i s.heap) (hle1 : i ≤ n1) (hle2 : i ≤ n2) (hend : i = n1 ∨ i = n2)
    (hE : ∀ h' tk e, (∀ c o, c ≠ z → c ≠ i1 → c ≠ i2 → s.heap.get? c = some o → h'.get? c = some o) → (∃ o, h'.get? e = some o ∧ o.cls = .type "StopIteration") → E (.ref e) { s with heap := h', toks := tk }) :
    wpAny (model prog w) A (Builtin.«zip.__next__» ⟨[.ref z], []⟩) Q E s := by
  obtain ⟨hp, g, d, tk0, os⟩ := s
  show wpAny _ _ (field (.ref z) 2 >>= _) _ _ _
  refine wpAny_bind (wpAny_field hz rfl (x := .bool false) rfl ?_)
  show wpAny _ _ (field (.ref z) 3 >>= _) _ _ _
  refine wpAny_bind (wpAny_field hz rfl (x := .ref TI) rfl ?_)
  refine wpAny_bind (wpAny_seqItems hTI rfl ?_)
  show wpAny _ _ (Builtin.SmallTypes.ownedTupleIsFree (.ref z) >>= _) _ _ _
  refine wpAny_bind (wpAny_tupleHeld_zip hz hT fun h₁ hz₁ hs₁ => ?_)
  simp only [Bool.false_eq_true, if_false]
  refine wpAny_bind ?_
  rw [← Array.forIn_toList]
  simp only [List.forIn_cons, List.forIn_nil]
  refine wpAny_bind (wpAny_bind (wpAny_holding ?_))
  show wpAny _ _ (Builtin.SmallTypes.nextOf (.ref i1) >>= _) _ _ ⟨h₁, g, d, tk0, os⟩
  by_cases hi : i = n1
  · subst hi
    refine wpAny_bind (D1.done _ _ _ (D1.over st1 hs₁ S.zf1) fun h₂ e hs₂ he => ?_)
    exact hE h₂ tk0 e (fun c o c1 c2 _ x => hs₂ _ _ c2 (hs₁.extBut _ _ c1 x)) he
  · have h2 : i = n2 := hend.resolve_left hi
    subst h2
    refine wpAny_bind (D1.item i _ _ _ (by omega) (D1.over st1 hs₁ S.zf1) fun x1 h₂ tk1 hx1 sn1 hs₂ => wpAny_pure ?_)
    replace hs₂ : Heap.SameBut i1 h₁ h₂ := hs₂
    refine wpAny_pure ?_
    refine wpAny_bind (wpAny_bind (wpAny_holding ?_))
    show wpAny _ _ (Builtin.SmallTypes.nextOf (.ref i2) >>= _) _ _ ⟨h₂, g, d, tk1, os⟩
    refine wpAny_bind (D2.done _ _ _ (D2.over (D2.over st2 hs₁ S.zf2) hs₂ S.sep1_2) fun h₃ e hs₃ he => ?_)
    exact hE h₃ tk1 e (fun c o c1 c2 c3 x => hs₃ _ _ c3 (hs₂.extBut _ _ c2 (hs₁.extBut _ _ c1 x))) he
theorem pyNext_zipH_item {Q : Option Value → Shared → Prop} (S : ZipSep2 z TI TO i1 i2 fp1 fp2) (D1 : Draws prog w A.in1 i1 fp1 n1 P1 St1) (D2 : Draws prog w A.in1 i2 fp2 n2 P2 St2)
    (hz : IsZipHeld s.heap z TI TO T f) (hT : s.heap.get? T = some oT) (hTI : IsTupOf2 s.heap TI (.ref i1) (.ref i2)) (st1 : St1 i s.heap) (st2 : St2 i s.heap) (hlt1 : i < n1) (hlt2 : i < n2)
    (hQ : ∀ x1 x2 h' tk, P1 i x1 → P2 i x2 → IsZipHeld h' z TI TO T true → St1 (i + 1) h' → St2 (i + 1) h' → IsTupOf2 h' s.heap.objs.size x1 x2 → h'.objs.size = s.heap.objs.size + 1 →
      (∀ c o, c ≠ z → c ≠ i1 → c ≠ i2 → s.heap.get? c = some o → h'.get? c = some o) → Q (some (.ref s.heap.objs.size)) { s with heap := h', toks := tk }) :
    wpAny (model prog w) A (pyNext (.ref z)) Q E s := by
  have hTy : s.TypeIs (.ref z) "zip" := ⟨_, hz, rfl⟩
  unfold pyNext
  exact wpAny_bind (wpAny_attempt (wpAny_callSpecial?_slot (name := Str.ofString "__next__") hTy F.slot_zip_next
    (wpAny_call_entry F.slot_zip_next hTy F.entry_zip_next
      (zipH_next_item S D1 D2 hz hT hTI st1 st2 hlt1 hlt2 fun x1 x2 h' tk y1 y2 b1 d1 d2 b5 b6 b7 => wpAny_pure (hQ x1 x2 h' tk y1 y2 b1 d1 d2 b5 b6 b7)) (F.args_zip_next_1 _))))
theorem pyNext_zipH_end {Q : Option Value → Shared → Prop} (S : ZipSep2 z TI TO i1 i2 fp1 fp2) (D1 : Draws prog w A.in1 i1 fp1 n1 P1 St1) (D2 : Draws prog w A.in1 i2 fp2 n2 P2 St2)
    (hz : IsZipHeld s.heap z TI TO T f) (hT : s.heap.get? T = some oT) (hTI : IsTupOf2 s.heap TI (.ref i1) (.ref i2)) (st1 : St1 i s.heap) (st2 : St2 i s.heap) (hle1 : i ≤ n1) (hle2 : i ≤ n2) (hend : i = n1 ∨ i = n2)
    (hQ : ∀ h' tk, (∀ c o, c ≠ z → c ≠ i1 → c ≠ i2 → s.heap.get? c = some o → h'.get? c = some o) → Q none { s with heap := h', toks := tk }) : wpAny (model prog w) A (pyNext (.ref z)) Q E s := by
  have hTy : s.TypeIs (.ref z) "zip" := ⟨_, hz, rfl⟩
  unfold pyNext
  refine wpAny_bind (wpAny_attempt (wpAny_callSpecial?_slot (name := Str.ofString "__next__") hTy F.slot_zip_next
    (wpAny_call_entry F.slot_zip_next hTy F.entry_zip_next (zipH_next_end S D1 D2 hz hT hTI st1 st2 hle1 hle2 hend fun h' tk e hk he => ?_) (F.args_zip_next_1 _))))
  obtain ⟨o, ho, hc⟩ := he
  refine wpAny_bind (wpAny_isInstance (T := "StopIteration") (b := true) ⟨o, ho, hc⟩ isSubtype_stop ?_)
  exact wpAny_pure (hQ _ _ hk)
/-- the zip ahead of turn i, a tuple out or none -/
def ZSt (z TI TO i1 i2 S : Addr) (St1 St2 : Nat → Heap → Prop) (i : Nat) (h : Heap) : Prop :=
  IsTupOf2 h TI (.ref i1) (.ref i2) ∧ St1 i h ∧ St2 i h ∧ ((IsZip h z TI TO .none ∧ ∃ a1 a2, IsTupOf2 h TO a1 a2) ∨ ∃ T f oT, IsZipHeld h z TI TO T f ∧ h.get? T = some oT ∧ S < T)
theorem zst_item {Sl : Addr} {Q : Option Value → Shared → Prop} (S : ZipSep2 z TI TO i1 i2 fp1 fp2) (D1 : Draws prog w A.in1 i1 fp1 n1 P1 St1) (D2 : Draws prog w A.in1 i2 fp2 n2 P2 St2) (low : z < Sl ∧ TI < Sl ∧ TO < Sl ∧ i1 < Sl ∧ i2 < Sl) (hSl : Sl < s.heap.objs.size)
    (st : ZSt z TI TO i1 i2 Sl St1 St2 i s.heap) (hlt1 : i < n1) (hlt2 : i < n2)
    (hQ : ∀ x1 x2 h' tk, P1 i x1 → P2 i x2 → ZSt z TI TO i1 i2 Sl St1 St2 (i + 1) h' → IsTupOf2 h' s.heap.objs.size x1 x2 → h'.objs.size = s.heap.objs.size + 1 →
      (∀ c o, c ≠ z → c ≠ TO → c ≠ i1 → c ≠ i2 → s.heap.get? c = some o → h'.get? c = some o) → Q (some (.ref s.heap.objs.size)) { s with heap := h', toks := tk }) :
    wpAny (model prog w) A (pyNext (.ref z)) Q E s := by
  obtain ⟨hTI, st1, st2, ⟨hz, a1, a2, hTO⟩ | ⟨T, f, oT, hz, hT, hST⟩⟩ := st
  · refine wpAny_pyNext_zipD2_item S D1 D2 hz hTI hTO st1 st2 hlt1 hlt2 fun x1 x2 h' tk y1 y2 b1 b2 d1 d2 b5 b6 hk => ?_
    exact hQ x1 x2 h' tk y1 y2 ⟨hk _ _ S.TIz S.TITO S.TIi1 S.TIi2 hTI, d1, d2, .inr ⟨_, false, _, b1, b5, hSl⟩⟩ b5 b6 hk
  · refine pyNext_zipH_item S D1 D2 hz hT hTI st1 st2 hlt1 hlt2 fun x1 x2 h' tk y1 y2 b1 d1 d2 b5 b6 hk => ?_
    have nz : T ≠ z := fun e => absurd (Nat.lt_trans hST (e ▸ low.1)) (Nat.lt_irrefl _)
    have n1' : T ≠ i1 := fun e => absurd (Nat.lt_trans hST (e ▸ low.2.2.2.1)) (Nat.lt_irrefl _)
    have n2' : T ≠ i2 := fun e => absurd (Nat.lt_trans hST (e ▸ low.2.2.2.2)) (Nat.lt_irrefl _)
    exact hQ x1 x2 h' tk y1 y2 ⟨hk _ _ S.TIz S.TIi1 S.TIi2 hTI, d1, d2, .inr ⟨T, true, oT, b1, hk _ _ nz n1' n2' hT, hST⟩⟩ b5 b6 fun c o c1 _ c2 c3 e => hk c o c1 c2 c3 e
theorem zst_end {Sl : Addr} {Q : Option Value → Shared → Prop} (S : ZipSep2 z TI TO i1 i2 fp1 fp2) (D1 : Draws prog w A.in1 i1 fp1 n1 P1 St1) (D2 : Draws prog w A.in1 i2 fp2 n2 P2 St2)
    (st : ZSt z TI TO i1 i2 Sl St1 St2 i s.heap) (hle1 : i ≤ n1) (hle2 : i ≤ n2) (hend : i = n1 ∨ i = n2)
    (hQ : ∀ h' tk, (∀ c o, c ≠ z → c ≠ TO → c ≠ i1 → c ≠ i2 → s.heap.get? c = some o → h'.get? c = some o) → Q none { s with heap := h', toks := tk }) : wpAny (model prog w) A (pyNext (.ref z)) Q E s := by
  obtain ⟨hTI, st1, st2, ⟨hz, a1, a2, hTO⟩ | ⟨T, f, oT, hz, hT, hST⟩⟩ := st
  · exact wpAny_pyNext_zipD2_end S D1 D2 hz hTI hTO st1 st2 hle1 hle2 hend hQ
  · exact pyNext_zipH_end S D1 D2 hz hT hTI st1 st2 hle1 hle2 hend fun h' tk hk => hQ h' tk fun c o c1 _ c2 c3 e => hk c o c1 c2 c3 e
end
structure ZipG (P1 P2 : Nat → Value → Prop) (lo : Addr) (h : Heap) (as : List Addr) : Prop where
  rise : as.Pairwise (· < ·)
  above : ∀ a ∈ as, lo < a
  pairs : ∀ (j : Nat) (a : Addr), as[j]? = some a → ∃ x1 x2, P1 j x1 ∧ P2 j x2 ∧ IsTupOf2 h a x1 x2
section
variable {prog : Program} {w : World} {A : Around} {s : Shared} {R : Result → Shared → Prop} {z TI TO i1 i2 : Addr} {fp1 fp2 : List Addr} {n1 n2 : Nat} {P1 P2 : Nat → Value → Prop} {St1 St2 : Nat → Heap → Prop}
theorem ZipG.there {lo : Addr} {h : Heap} {as : List Addr} (g : ZipG P1 P2 lo h as) {a : Addr} (ha : a ∈ as) : a < h.objs.size := by
  obtain ⟨j, hj⟩ := List.mem_iff_getElem?.mp ha
  obtain ⟨_, _, _, _, e⟩ := g.pairs j a hj
  exact Heap.lt_size e
theorem zip_loop {S : Addr} (Sp : ZipSep2 z TI TO i1 i2 fp1 fp2) (D1 : Draws prog w A.in1.in1 i1 fp1 n1 P1 St1) (D2 : Draws prog w A.in1.in1 i2 fp2 n2 P2 St2) (low : z < S ∧ TI < S ∧ TO < S ∧ i1 < S ∧ i2 < S) (lf1 : ∀ b ∈ fp1, b < S) (lf2 : ∀ b ∈ fp2, b < S) (hn : min n1 n2 ≤ sizeLine) (res : Value) {h₁ : Heap}
    (hR : ∀ h' tk acc c as, (∀ b o, b ≠ S → b ≠ z → b ≠ TO → b ≠ i1 → b ≠ i2 → h₁.get? b = some o → h'.get? b = some o) → h'.get? S = some { cls := .type "list", dict := none, data := .seq acc c, slots := #[] } → as.length = min n1 n2 → ZipG P1 P2 S h' as →
      acc.toList = as.map Value.ref → R (.ok (.ret res)) { s with heap := h', toks := tk }) :
    ∀ (k i : Nat) (h : Heap) (tk c : Nat) (acc : Array Value) (as : List Addr), min n1 n2 - i = k → i ≤ min n1 n2 → ZSt z TI TO i1 i2 S St1 St2 i h → (∀ b o, b ≠ S → b ≠ z → b ≠ TO → b ≠ i1 → b ≠ i2 → h₁.get? b = some o → h.get? b = some o) →
      h.get? S = some { cls := .type "list", dict := none, data := .seq acc c, slots := #[] } → acc.toList = as.map Value.ref → as.length = i → ZipG P1 P2 S h as →
      codeAny (model prog w) A (.builtin "list.extend.loop" ⟨[.ref S, .ref z, res], []⟩) R { s with heap := h, toks := tk } := by
  have nS : ∀ b, b ≠ z → b ≠ TO → b ≠ i1 → b ≠ i2 → True := fun _ _ _ _ _ => trivial
  have Sz : S ≠ z := Nat.ne_of_gt low.1
  have STO : S ≠ TO := Nat.ne_of_gt low.2.2.1
  have S1 : S ≠ i1 := Nat.ne_of_gt low.2.2.2.1
  have S2 : S ≠ i2 := Nat.ne_of_gt low.2.2.2.2
  intro k
  induction k with
  | zero =>
    intro i h tk c acc as hk hi hst hkeep hS hacc hal hG
    have hin : i = min n1 n2 := by omega
    refine codeAny_builtin PySem.F.entry_extend_loop ?_
    rw [Around.under_plainId PySem.F.plain_extend_loop _]
    show wpAny _ A.in1 (pyNext (.ref z) >>= _) _ _ _
    refine wpAny_bind (zst_end (s := { s with heap := h, toks := tk }) (A := A.in1) Sp D1 D2 hst (by omega) (by omega) (by omega) fun h' tk' he => ?_)
    refine wpAny_pure (hR h' tk' acc c as (fun b o h0 h1 h2 h3 h4 e => he b o h1 h2 h3 h4 (hkeep b o h0 h1 h2 h3 h4 e)) (he S _ Sz STO S1 S2 hS) (by omega) ⟨hG.rise, hG.above, fun j a hj => ?_⟩ hacc)
    obtain ⟨x1, x2, p1, p2, e3⟩ := hG.pairs j a hj
    have ha := hG.above a (List.mem_of_getElem? hj)
    exact ⟨x1, x2, p1, p2, he a _ (Nat.ne_of_gt (Nat.lt_trans low.1 ha)) (Nat.ne_of_gt (Nat.lt_trans low.2.2.1 ha)) (Nat.ne_of_gt (Nat.lt_trans low.2.2.2.1 ha)) (Nat.ne_of_gt (Nat.lt_trans low.2.2.2.2 ha)) e3⟩
  | succ k ih =>
    intro i h tk c acc as hk hi hst hkeep hS hacc hal hG
    have hsz : acc.size = i := by rw [← Array.length_toList, hacc, List.length_map, hal]
    refine codeAny_builtin PySem.F.entry_extend_loop ?_
    rw [Around.under_plainId PySem.F.plain_extend_loop _]
    show wpAny _ A.in1 (pyNext (.ref z) >>= _) _ _ _
    refine wpAny_bind (zst_item (s := { s with heap := h, toks := tk }) (A := A.in1) Sp D1 D2 low (Heap.lt_size hS) hst (by omega) (by omega) fun x1 x2 h' tk' y1 y2 hst' ht hz hkp => ?_)
    dsimp only at ht hz hkp ⊢
    have hS' := hkp S _ Sz STO S1 S2 hS
    have up : ∀ b o, b ≠ S → h'.get? b = some o → (h'.update S (Obj.mapSeq (·.push (Value.ref h.objs.size)))).get? b = some o := fun b o hb e => (Heap.get?_update_other _ _ (Ne.symm hb)).trans e
    have hSl : S < h.objs.size := Heap.lt_size hS
    have zst2 : ZSt z TI TO i1 i2 S St1 St2 (i + 1) (h'.update S (Obj.mapSeq (·.push (Value.ref h.objs.size)))) := by
      obtain ⟨a1, a2, a3, a4⟩ := hst'
      refine ⟨up _ _ (Nat.ne_of_lt low.2.1) a1, D1.frame _ _ _ a2 fun b hb o e => up b o (Nat.ne_of_lt (lf1 b hb)) e, D2.frame _ _ _ a3 fun b hb o e => up b o (Nat.ne_of_lt (lf2 b hb)) e, ?_⟩
      rcases a4 with ⟨q1, q2, q3, q4⟩ | ⟨T, f, oT, q1, q2, q3⟩
      · exact .inl ⟨up _ _ (Ne.symm Sz) q1, q2, q3, up _ _ (Ne.symm STO) q4⟩
      · exact .inr ⟨T, f, oT, up _ _ (Ne.symm Sz) q1, up _ _ (Nat.ne_of_gt q3) q2, q3⟩
    show wpAny _ A.in1 (updateSeq S (·.push (Value.ref h.objs.size)) >>= _) _ _ _
    refine wpAny_bind ?_
    refine wpAny_updateSeq hS' rfl (wpAny_pure ⟨plainId_quiet PySem.F.plain_extend_loop _, ih (i + 1) _ tk' _ (acc.push (Value.ref h.objs.size)) (as ++ [h.objs.size]) (by omega) (by omega) zst2
      (fun b o h0 h1 h2 h3 h4 e => up b o h0 (hkp b o h1 h2 h3 h4 (hkeep b o h0 h1 h2 h3 h4 e))) (Heap.get?_update_self _ hS' rfl) (by rw [Array.toList_push, hacc, List.map_append]; rfl) (by rw [List.length_append, hal]; rfl) ⟨?_, ?_, ?_⟩⟩) (by rw [hsz]; omega) (by show (acc.push (Value.ref h.objs.size)).size ≤ sizeLine + 1; rw [Array.size_push, hsz]; omega)
    · refine List.pairwise_append.mpr ⟨hG.rise, List.pairwise_singleton _ _, fun a ha b hb => ?_⟩
      rw [List.mem_singleton.mp hb]
      exact hG.there ha
    · intro a ha
      rcases List.mem_append.mp ha with ha | ha
      · exact hG.above a ha
      · rw [List.mem_singleton.mp ha]; exact hSl
    · intro j b hj
      rcases Nat.lt_trichotomy j as.length with h1 | h1 | h1
      · rw [List.getElem?_append_left h1] at hj
        obtain ⟨w1, w2, p1, p2, e3⟩ := hG.pairs j b hj
        have ha := hG.above b (List.mem_of_getElem? hj)
        exact ⟨w1, w2, p1, p2, up b _ (Nat.ne_of_gt ha) (hkp b _ (Nat.ne_of_gt (Nat.lt_trans low.1 ha)) (Nat.ne_of_gt (Nat.lt_trans low.2.2.1 ha)) (Nat.ne_of_gt (Nat.lt_trans low.2.2.2.1 ha)) (Nat.ne_of_gt (Nat.lt_trans low.2.2.2.2 ha)) e3)⟩
      · subst h1
        have hb : h.objs.size = b := by simpa using hj
        subst hb
        exact ⟨x1, x2, by rw [hal]; exact y1, by rw [hal]; exact y2, up _ _ (Nat.ne_of_gt hSl) ht⟩
      · have hnone : (as ++ [h.objs.size])[j]? = none := List.getElem?_eq_none (by rw [List.length_append, List.length_singleton]; omega)
        rw [hnone] at hj; cases hj
end
end FYR

set_option Elab.async false
set_option linter.all false
set_option maxRecDepth 100000
set_option maxHeartbeats 4000000
/-! list(zip(x, y)) of two texts; x[i:j:k] -/
namespace FYR
open PySem PySem.Spec PyProof.Rows L2
theorem nolen_zip : typeLookup (.type "zip") "__len__" = pure none := by rw [typeLookup_type, builtinLookup_eq_fast]; kernel_rfl
theorem nohint_zip : typeLookup (.type "zip") "__length_hint__" = pure none := by rw [typeLookup_type, builtinLookup_eq_fast]; kernel_rfl
section
variable {prog : Program} {w : World} {A : Around} {E : Value → Shared → Prop} {s : Shared} {z TI TO i1 i2 : Addr} {fp1 fp2 : List Addr} {n1 n2 : Nat} {P1 P2 : Nat → Value → Prop} {St1 St2 : Nat → Heap → Prop}
/-- a fresh zip -/
def ZNew (z TI TO i1 i2 : Addr) (St1 St2 : Nat → Heap → Prop) (h : Heap) : Prop :=
  IsTupOf2 h TI (.ref i1) (.ref i2) ∧ St1 0 h ∧ St2 0 h ∧ IsZip h z TI TO .none ∧ ∃ a1 a2, IsTupOf2 h TO a1 a2
theorem zl_extend {R : Result → Shared → Prop} (Sp : ZipSep2 z TI TO i1 i2 fp1 fp2) (D1 : Draws prog w A.in1.in1 i1 fp1 n1 P1 St1) (D2 : Draws prog w A.in1.in1 i2 fp2 n2 P2 St2) (hv : ZNew z TI TO i1 i2 St1 St2 s.heap) (S : Addr)
    (low : z < S ∧ TI < S ∧ TO < S ∧ i1 < S ∧ i2 < S) (lf1 : ∀ b ∈ fp1, b < S) (lf2 : ∀ b ∈ fp2, b < S) (res : Value) (c₀ : Nat) (hS : s.heap.get? S = some { cls := .type "list", data := .seq #[] c₀ })
    (hR : ∀ h' tk acc c as, (∀ b o, b ≠ S → b ≠ z → b ≠ TO → b ≠ i1 → b ≠ i2 → s.heap.get? b = some o → h'.get? b = some o) → h'.get? S = some { cls := .type "list", dict := none, data := .seq acc c, slots := #[] } → as.length = min n1 n2 → ZipG P1 P2 S h' as →
      acc.toList = as.map Value.ref → R (.ok (.ret res)) { s with heap := h', toks := tk }) (hn : min n1 n2 ≤ sizeLine) :
    wpAny (model prog w) A.in1 (Builtin.List.listExtendWith (.ref S) (.ref z) res)
      (fun fin s' => match fin with | .done f => R (.ok f) s' | .again c' => c'.quiet = true ∧ codeAny (model prog w) A c' R s') (fun e s' => R (.error e) s') s := by
  have hTy : s.TypeIs (.ref z) "zip" := ⟨_, hv.2.2.2.1, rfl⟩
  have key : ∀ (h : Heap) (c₁ tk : Nat), (∀ b o, b ≠ S → s.heap.get? b = some o → h.get? b = some o) →
      h.get? S = some { cls := .type "list", data := .seq #[] c₁ } → codeAny (model prog w) A (.builtin "list.extend.loop" ⟨[.ref S, .ref z, res], []⟩) R { s with heap := h, toks := tk } := by
    intro h c₁ tk hk hS₁
    obtain ⟨q1, q2, q3, q4, a1, a2, q5⟩ := hv
    refine zip_loop (s := s) (h₁ := s.heap) Sp D1 D2 low lf1 lf2 hn res hR (min n1 n2) 0 h tk c₁ #[] [] (Nat.sub_zero _) (Nat.zero_le _)
      ⟨hk _ _ (Nat.ne_of_lt low.2.1) q1, D1.frame _ _ _ q2 fun b hb o e => hk b o (Nat.ne_of_lt (lf1 b hb)) e, D2.frame _ _ _ q3 fun b hb o e => hk b o (Nat.ne_of_lt (lf2 b hb)) e, .inl ⟨hk _ _ (Nat.ne_of_lt low.1) q4, a1, a2, hk _ _ (Nat.ne_of_lt low.2.2.1) q5⟩⟩
      (fun b o h0 _ _ _ _ e => hk b o h0 e) hS₁ rfl rfl ⟨List.Pairwise.nil, (fun _ ha => nomatch ha), (fun j a hj => by simp at hj)⟩
  unfold Builtin.List.listExtendWith
  refine wpAny_bind (wpAny_typeOf (T := "zip") hTy ?_)
  have h1 : Builtin.List.listSameRef (.ref S) (.ref z) = false := by simp [Builtin.List.listSameRef, Nat.ne_of_gt low.1]
  have h2 : (Value.type "zip" == Value.type "list") = false := by decide
  have h3 : (Value.type "zip" == Value.type "tuple") = false := by decide
  simp only [h1, h2, h3, Bool.or_false, Bool.false_eq_true, if_false]
  refine wpAny_bind (wpAny_pyIter_zip hv.2.2.2.1 ?_)
  refine wpAny_bind (wpAny_holding ?_)
  unfold Builtin.List.listLengthHint
  refine wpAny_bind (wpAny_specialOf hTy nolen_zip ?_)
  show wpAny _ A.in1 (specialOf (Value.ref z) (Str.ofString "__length_hint__") >>= _) _ _ _
  refine wpAny_bind (wpAny_specialOf hTy nohint_zip ?_)
  refine wpAny_pure ?_
  refine wpAny_ite_split (fun _ => ?_) (fun _ => wpAny_pure ⟨plainId_quiet PySem.F.plain_extend_loop _, key _ c₀ _ (fun b o _ e => e) hS⟩)
  refine wpAny_bind (wpAny_rule ?_)
  refine wpAny_bind ?_
  show wpAny _ _ (updateSeq S (·.push .none) >>= fun _ => updateSeq S (·.pop)) _ _ _
  refine wpAny_bind (wpAny_updateSeq hS rfl ?_)
  have hS₂ := Heap.get?_update_self (Obj.mapSeq (·.push Value.none)) hS rfl
  refine wpAny_updateSeq (hz := by seq_fits) hS₂ rfl ?_
  have hS₃ := Heap.get?_update_self (Obj.mapSeq (·.pop)) hS₂ rfl
  refine wpAny_pure ⟨plainId_quiet PySem.F.plain_extend_loop _, key _ _ _ (fun b o hb e => ?_) hS₃⟩
  exact (Heap.get?_update_other _ _ (Ne.symm hb)).trans ((Heap.get?_update_other _ _ (Ne.symm hb)).trans e)
theorem ZNew.keep {h h' : Heap} (D1 : Draws prog w A i1 fp1 n1 P1 St1) (D2 : Draws prog w A i2 fp2 n2 P2 St2) (hv : ZNew z TI TO i1 i2 St1 St2 h) (k : ∀ b o, (b = z ∨ b = TI ∨ b = TO ∨ b ∈ fp1 ∨ b ∈ fp2) → h.get? b = some o → h'.get? b = some o) : ZNew z TI TO i1 i2 St1 St2 h' := by
  obtain ⟨q1, q2, q3, q4, a1, a2, q5⟩ := hv
  exact ⟨k _ _ (by simp) q1, D1.frame _ _ _ q2 fun b hb o e => k b o (by simp [hb]) e, D2.frame _ _ _ q3 fun b hb o e => k b o (by simp [hb]) e, k _ _ (by simp) q4, a1, a2, k _ _ (by simp) q5⟩
theorem zl_init {R : Result → Shared → Prop} (Sp : ZipSep2 z TI TO i1 i2 fp1 fp2) (D1 : Draws prog w A.in1.in1 i1 fp1 n1 P1 St1) (D2 : Draws prog w A.in1.in1 i2 fp2 n2 P2 St2) (hv : ZNew z TI TO i1 i2 St1 St2 s.heap) (S : Addr)
    (low : z < S ∧ TI < S ∧ TO < S ∧ i1 < S ∧ i2 < S) (lf1 : ∀ b ∈ fp1, b < S) (lf2 : ∀ b ∈ fp2, b < S) (hS : s.heap.get? S = some { cls := .type "list", data := .seq #[] })
    (hR : ∀ h' tk acc c as, (∀ b o, b ≠ S → b ≠ z → b ≠ TO → b ≠ i1 → b ≠ i2 → s.heap.get? b = some o → h'.get? b = some o) → h'.get? S = some { cls := .type "list", dict := none, data := .seq acc c, slots := #[] } → as.length = min n1 n2 → ZipG P1 P2 S h' as →
      acc.toList = as.map Value.ref → R (.ok (.ret .none)) { s with heap := h', toks := tk }) (hn : min n1 n2 ≤ sizeLine) :
    wpAny (model prog w) A.in1 (Builtin.«list.__init__» ⟨[.ref S, .ref z], []⟩)
      (fun fin s' => match fin with | .done f => R (.ok f) s' | .again c' => c'.quiet = true ∧ codeAny (model prog w) A c' R s') (fun e s' => R (.error e) s') s := by
  show wpAny _ _ (do let old ← Builtin.List.listItems (.ref S); Builtin.List.listUpdate (.ref S) (fun _ => #[]); letGo old.toList.reverse; Builtin.List.listExtendWith (.ref S) (.ref z) .none) _ _ s
  refine wpAny_bind ?_
  unfold Builtin.List.listItems
  refine wpAny_bind (wpAny_seqItems hS rfl (wpAny_pure ?_))
  show wpAny _ _ (updateSeq S (fun _ => #[]) >>= fun _ => letGo (#[] : Array Value).toList.reverse >>= fun _ => Builtin.List.listExtendWith (.ref S) (.ref z) .none) _ _ s
  refine wpAny_bind (wpAny_updateSeq hS rfl ?_)
  have hS₂ := Heap.get?_update_self (Obj.mapSeq (fun _ => (#[] : Array Value))) hS rfl
  have oth : ∀ b o, b ≠ S → s.heap.get? b = some o → (s.heap.update S (Obj.mapSeq (fun _ => (#[] : Array Value)))).get? b = some o :=
    fun b o hb e => (Heap.get?_update_other _ _ (Ne.symm hb)).trans e
  refine wpAny_bind (wpAny_letGo ?_)
  refine zl_extend Sp D1 D2 (ZNew.keep D1 D2 hv fun b o hb e => oth b o ?_ e) S low lf1 lf2 .none _ hS₂ (fun h' tk acc c as hk hS' hl hG hacc => ?_) hn
  · rcases hb with q | q | q | q | q
    · rw [q]; exact Nat.ne_of_lt low.1
    · rw [q]; exact Nat.ne_of_lt low.2.1
    · rw [q]; exact Nat.ne_of_lt low.2.2.1
    · exact Nat.ne_of_lt (lf1 b q)
    · exact Nat.ne_of_lt (lf2 b q)
  · exact hR h' tk acc c as (fun b o h0 h1 h2 h3 h4 e => hk b o h0 h1 h2 h3 h4 (oth b o h0 e)) hS' hl hG hacc
theorem zl_call {Q : Value → Shared → Prop} (Sp : ZipSep2 z TI TO i1 i2 fp1 fp2) (D1 : Draws prog w A.in1.in1.in1 i1 fp1 n1 P1 St1) (D2 : Draws prog w A.in1.in1.in1 i2 fp2 n2 P2 St2) (hv : ZNew z TI TO i1 i2 St1 St2 s.heap)
    (low : z < s.heap.objs.size ∧ TI < s.heap.objs.size ∧ TO < s.heap.objs.size ∧ i1 < s.heap.objs.size ∧ i2 < s.heap.objs.size) (lf1 : ∀ b ∈ fp1, b < s.heap.objs.size) (lf2 : ∀ b ∈ fp2, b < s.heap.objs.size) (hn : min n1 n2 ≤ sizeLine)
    (hQ : ∀ h' tk acc c as, (∀ b o, b ≠ z → b ≠ TO → b ≠ i1 → b ≠ i2 → s.heap.get? b = some o → h'.get? b = some o) → h'.get? s.heap.objs.size = some { cls := .type "list", dict := none, data := .seq acc c, slots := #[] } → as.length = min n1 n2 → ZipG P1 P2 s.heap.objs.size h' as →
      acc.toList = as.map Value.ref → Q (.ref s.heap.objs.size) { s with heap := h', toks := tk }) :
    wpAny (model prog w) A (call (.type "list") [.ref z]) Q E s := by
  refine callType_codes (Q₁ := fun obj s₁ => obj = .ref s.heap.objs.size ∧ s₁ = { s with heap := s.heap.push { cls := .type "list", data := .seq #[] } }) PySem.F.called_list (PySem.F.typeCall_list_1 _) PySem.F.entry_list_init
    (code_list_new _ ⟨rfl, rfl⟩) fun obj s₁ h₁ => ?_
  obtain ⟨rfl, rfl⟩ := h₁
  have hS : (s.heap.push { cls := .type "list", data := .seq #[] }).get? s.heap.objs.size = some { cls := .type "list", data := .seq #[] } := Heap.get?_push_size _ rfl
  refine ⟨⟨_, hS, rfl⟩, PySem.F.args_list_init_2 _ _, zl_init (A := A.in1) Sp D1 D2 (ZNew.keep D1 D2 hv fun b o _ e => Heap.get?_push_of_some _ e) _ low lf1 lf2 hS (fun h' tk acc c as hk hS' hl hG hacc => ?_) hn⟩
  exact ⟨rfl, hQ h' tk acc c as (fun b o h1 h2 h3 h4 e => hk b o (Nat.ne_of_lt (Heap.lt_size e)) h1 h2 h3 h4 (Heap.get?_push_of_some _ e)) hS' hl hG hacc⟩
end

/-! ### x[i:j:k] of a text -/
def stepS (z : Str) (l u : Option Int) (k : Int) : Str :=
  if (k == 1 && (Builtin.Str.strSliceIndices l u k z.length).length == z.length) = true then z else ⟨((Builtin.Str.strSliceIndices l u k z.length).filterMap (z.cps[·]?)).toArray⟩
theorem stepS_length (z : Str) (l u : Option Int) (k : Int) (hk : k ≠ 0) : (stepS z l u k).length ≤ z.length := by
  unfold stepS
  split
  · exact Nat.le_refl _
  · show (List.filterMap _ (Builtin.Str.strSliceIndices l u k z.length)).toArray.size ≤ z.length
    rw [List.size_toArray]
    exact Nat.le_trans (List.length_filterMap_le _ _) (sliceIndicesBy_le _ _ _ hk z.length)
section
variable {X : Cx} {e st : Expr} {lo hi : Option Expr} {te : TE} {tl th ts : TO} {p2 pos : Pos}
def tStepS (te : TE) (tl th ts : TO) : TE := fun σ H Q => te σ H fun x H1 => tl σ H1 fun l H2 => th σ H2 fun u H3 => ts σ H3 fun k H4 => ∃ (z : Str) (i : Int), x = .str z ∧ k = some i ∧ i ≠ 0 ∧ z.length ≤ sizeLine ∧ Q (.str (stepS z l u i)) H4
theorem pe_stepS (he : PE X e te) (hl : PO X lo tl) (hu : PO X hi th) (hst : PO X (some st) ts) : PE X (.Subscript e (.Slice lo hi (some st) p2) pos) (tStepS te tl th ts) := by
  refine ⟨fun pins s σ H Q I h => ?_⟩
  refine Subscript_ (thn (he.run pins s σ H _ I h) fun v s1 ⟨x, H1, I1, r1, q1⟩ => ?_)
  refine wpAny_Slice (thn (hl.run pins s1 σ H1 _ I1 q1) fun vl s2 ⟨l, H2, I2, pl, q2⟩ => thn (hu.run pins s2 σ H2 _ I2 q2) fun vu s3 ⟨u, H3, I3, pu, q3⟩ => thn (hst.run pins s3 σ H3 _ I3 q3) fun vk s4 ⟨k, H4, I4, pk, q4⟩ => ?_)
  have I5 : Inv X pins σ H4 { s4 with heap := s4.heap.push { cls := .type "slice", data := .fields #[vl, vu, vk] } } := I4.kept (t' := s4.toks) fun b ob q => Heap.get?_push_of_some _ q
  obtain ⟨z, i, rfl, rfl, hi0, hz, q⟩ := q4
  obtain ⟨t, rfl⟩ := r1
  obtain ⟨l', rfl, rfl⟩ := IsPart.raw pl
  obtain ⟨u', rfl, rfl⟩ := IsPart.raw pu
  obtain ⟨k', rfl, ek⟩ := IsPart.raw pk
  have hlen := stepS_length z (l'.map (·.1)) (u'.map (·.1)) i hi0
  have ek2 : ((k'.map (·.1)).getD 1) = i := by rw [ek]; rfl
  show wpAny (model X.prog X.w) X.A (subscriptTail e (.Slice lo hi (some st) p2) (.str z t) (.ref s4.heap.objs.size)) (EP X pins σ Q) X.xe { s4 with heap := s4.heap.push { cls := .type "slice", data := .fields #[partValue l', partValue u', partValue k'] } }
  refine tail_any (ops := [.str z t, .ref s4.heap.objs.size]) (typeIs_str _ _ _) F.slot_str_getitem.lookup ?_ (by with_unfolding_all rfl)
  refine wpAny_getItem_str_slice (l := l') (u := u') (st := k') ⟨_, Heap.get?_push_size _ rfl, rfl, rfl⟩ (by rw [ek2]; simpa using hi0) ?_
  unfold stepS at q hlen
  show Made.post (if ((k'.map (·.1)).getD 1 == 1 && (Builtin.Str.strSliceIndices (l'.map (·.1)) (u'.map (·.1)) ((k'.map (·.1)).getD 1) z.length).length == z.length) = true then Made.val (.str z t)
    else Made.str ⟨((Builtin.Str.strSliceIndices (l'.map (·.1)) (u'.map (·.1)) ((k'.map (·.1)).getD 1) z.length).filterMap (z.cps[·]?)).toArray⟩) (EP X pins σ Q) _
  rw [ek2]
  by_cases c : (i == 1 && (Builtin.Str.strSliceIndices (l'.map (·.1)) (u'.map (·.1)) i z.length).length == z.length) = true
  · rw [if_pos c] at q ⊢
    exact ⟨.str z, H4, I5, ⟨t, rfl⟩, q⟩
  · rw [if_neg c] at q hlen ⊢
    exact ⟨Nat.le_trans hlen hz, .str _, H4, I5.tok _, ⟨_, rfl⟩, q⟩
end
end FYR

set_option Elab.async false
set_option linter.all false
set_option maxRecDepth 100000
set_option maxHeartbeats 4000000
namespace FYR
open PySem PySem.Spec PyProof.Rows L2
/-- pairs tracked at their addresses -/
def putP : Hp → List Addr → List (V × V) → Hp
  | H, a :: as, p :: ps => putP (upd H a (.tup [p.1, p.2])) as ps
  | H, _, _ => H
theorem putP_off {b : Addr} : ∀ (as : List Addr) (ps : List (V × V)) (H : Hp), b ∉ as → putP H as ps b = H b
  | [], _, _, _ => rfl
  | _ :: _, [], _, _ => rfl
  | a :: as, p :: ps, H, h => by
    show putP (upd H a (.tup [p.1, p.2])) as ps b = H b
    rw [putP_off as ps _ (fun z => h (List.mem_cons_of_mem _ z)), upd_ne (fun z => h (by rw [z]; exact List.mem_cons_self))]
theorem putP_at : ∀ (as : List Addr) (ps : List (V × V)) (H : Hp), as.length = ps.length → as.Nodup → Paired (fun (t : Addr) (p : V × V) => putP H as ps t = some (.tup [p.1, p.2])) as ps
  | [], [], _, _, _ => .nil
  | [], _ :: _, _, h, _ => by cases h
  | _ :: _, [], _, h, _ => by cases h
  | a :: as, p :: ps, H, h, hn => by
    have hn' := List.nodup_cons.mp hn
    have ih := putP_at as ps (upd H a (.tup [p.1, p.2])) (Nat.succ.inj h) hn'.2
    refine .cons ?_ ih
    show putP (upd H a (.tup [p.1, p.2])) as ps a = some (.tup [p.1, p.2])
    rw [putP_off as ps _ hn'.1, upd_same]
def sg (c : Nat) : V := .str ⟨#[c]⟩
/-- the pairs of two texts -/
def zipV (x y : Str) : List (V × V) := (x.cps.toList.zip y.cps.toList).map fun p => (sg p.1, sg p.2)
theorem zipV_len (x y : Str) : (zipV x y).length = min x.cps.size y.cps.size := by simp [zipV]
def tListZip (ta : TA) : TE := fun σ H Q => ta σ H fun vs H1 => ∃ x y : Str, vs = [.str x, .str y] ∧ x.length ≤ sizeLine ∧
  ∀ (H' : Hp) (p : Addr) (ts : List Addr), (∀ b o, H1 b = some o → H' b = some o) → H1 p = none → (∀ t ∈ ts, H1 t = none) → p ∉ ts → H' p = some (.lst (ts.map V.ref)) → Paired (fun (t : Addr) (q : V × V) => H' t = some (.tup [q.1, q.2])) ts (zipV x y) → Q (.ref p) H'
section
variable {X : Cx} {e e2 : Expr} {ta : TA} {p pz apos cpos pos : Pos}
theorem zips_laid {pins : List (Addr × Obj)} {σ : L2.St} {H : Hp} {s : Shared} {h' : Heap} {tk : Nat} {lo : Addr} {ps : List (V × V)} {acc : Array Value} {c : Nat} {as : List Addr} (I : Inv X pins σ H s) (hlo : s.heap.objs.size ≤ lo) (hz : ps.length ≤ sizeLine)
    (hk : ∀ b o, s.heap.get? b = some o → h'.get? b = some o) (hS : h'.get? lo = some { cls := .type "list", dict := none, data := .seq acc c, slots := #[] }) (hl : as.length = ps.length) (rise : as.Pairwise (· < ·)) (above : ∀ a ∈ as, lo < a)
    (prs : ∀ (j : Nat) (a : Addr) (q : V × V), as[j]? = some a → ps[j]? = some q → ∃ x1 x2, RelV q.1 x1 ∧ RelV q.2 x2 ∧ IsTupOf2 h' a x1 x2) (hacc : acc.toList = as.map Value.ref) :
    ∃ H' : Hp, (∀ b o, H b = some o → H' b = some o) ∧ H lo = none ∧ (∀ t ∈ as, H t = none) ∧ lo ∉ as ∧ H' lo = some (.lst (as.map V.ref)) ∧ Paired (fun (t : Addr) (q : V × V) => H' t = some (.tup [q.1, q.2])) as ps ∧ Inv X pins σ H' { s with heap := h', toks := tk } := by
  have hSn : lo ∉ as := fun z => Nat.lt_irrefl _ (above _ z)
  have nd : as.Nodup := List.Pairwise.imp (fun {a b} (h : a < b) => Nat.ne_of_lt h) rise
  have new : ∀ t ∈ as, H t = none := fun t ht => I.hok.fresh (Nat.le_trans hlo (Nat.le_of_lt (above t ht)))
  have newS : H lo = none := I.hok.fresh hlo
  have atP := putP_at as ps (upd H lo (.lst (as.map V.ref))) hl nd
  have off : ∀ b, b ∉ as → b ≠ lo → putP (upd H lo (.lst (as.map V.ref))) as ps b = H b := fun b h1 h2 => by rw [putP_off as ps _ h1, upd_ne h2]
  have low : ∀ b o, s.heap.get? b = some o → b ∉ as ∧ b ≠ lo := fun b o e => ⟨fun z => absurd (Heap.lt_size e) (Nat.not_lt.mpr (Nat.le_trans hlo (Nat.le_of_lt (above b z)))), Nat.ne_of_lt (Nat.lt_of_lt_of_le (Heap.lt_size e) hlo)⟩
  have kp : ∀ b u, H b = some u → (putP (upd H lo (.lst (as.map V.ref))) as ps) b = some u := fun b u e => by
    rw [off b (fun z => by rw [new b z] at e; cases e) (fun z => by rw [z, newS] at e; cases e)]
    exact e
  have eS : putP (upd H lo (.lst (as.map V.ref))) as ps lo = some (.lst (as.map V.ref)) := by rw [putP_off as ps _ hSn, upd_same]
  refine ⟨putP (upd H lo (.lst (as.map V.ref))) as ps, kp, newS, new, hSn, eS, atP, ?_⟩
  refine I.call' (ch := []) rfl ⟨fun b o q _ _ _ => hk b o q, fun b o q _ _ _ => ⟨o.slots, hk b o q⟩, fun b o q n _ => ?_, fun b o q _ => ⟨o, hk b o q⟩, fun b xs q => kp b _ q, fun b o u q => kp b _ q, fun b ps q => ⟨#[], by rw [kp b _ q]; simp⟩⟩ (fun b u q => ?_) I.bare fun b z => by simp at z
  · obtain ⟨z1, z2⟩ := low b o q
    rw [off b z1 z2]
    exact n
  · by_cases hb : b ∈ as
    · obtain ⟨j, pk, e1, e2, e3⟩ := LiI.paired_ix atP hb
      rw [e3] at q
      cases q
      obtain ⟨x1, x2, r1, r2, f3⟩ := prs j b pk e1 e2
      exact ⟨by show 2 ≤ sizeLine; decide, [x1, x2], .cons r1 (.cons r2 .nil), ⟨_, f3, rfl, _, rfl⟩⟩
    · by_cases hb2 : b = lo
      · rw [hb2] at q ⊢
        rw [eS] at q
        cases q
        refine ⟨by rw [List.length_map]; omega, acc.toList, c, by rw [hacc]; exact LiI.vals_refs as, ?_⟩
        rw [Array.toArray_toList]
        exact hS
      · rw [off b hb hb2] at q
        exact (I.hok b u q).stay (fun d v _ y => hk d v y) (fun d y => kp d _ y) fun d xs y => kp d _ y
/-- list(zip(e, e2)) of two texts -/
theorem pe_listZip (hc : X.calm = true) (ha : PA X [e, e2] ta) (hg : Gl X "list") (hm : X.mg "list" = none) (hg2 : Gl X "zip") (hm2 : X.mg "zip" = none)
    (hs : starEach [.Call (.Name "zip" pz) [e, e2] [] cpos] X.env = (false, eval (.Call (.Name "zip" pz) [e, e2] [] cpos) X.env) :: starEach [] X.env := by rfl)
    (hs2 : starEach [e, e2] X.env = (false, eval e X.env) :: starEach [e2] X.env := by rfl) (hpl : (backTo cpos (starEach [e2] X.env)).any (·.1) = false := by rfl) :
    PE X (.Call (.Name "list" p) [.Call (.Name "zip" pz) [e, e2] [] cpos] [] pos) (tListZip ta) := by
  refine ⟨fun pins s σ H Q I hq => ?_⟩
  refine wpAny_Call_Name_kw (ld_blt I hg hm boot_list ?_)
  refine PyProof.Rows.callWith_type1 ?_ hs rfl
  rw [hs]
  show wpAny _ _ (spliced ((false, eval (.Call (.Name "zip" pz) [e, e2] [] cpos) X.env) :: backTo pos (starEach [] X.env))) _ _ s
  refine Calls.spliced_cons ?_
  refine Call_ (ld_blt I hg2 hm2 PyProof.Rows.boot_zip (PyProof.Rows.callWith_type1 (thn (ha.run cpos pins s σ H _ I hq) fun us s1 ⟨vs, H1, I1, r1, q1⟩ => ?_) hs2 hpl))
  obtain ⟨x, y, ex, hx, q1⟩ := q1
  subst ex
  cases r1 with
  | cons r rr =>
    cases rr with
    | cons r' rr =>
      cases rr
      obtain ⟨t, rfl⟩ := r
      obtain ⟨u, rfl⟩ := r'
      have hh : X.A.in1.in1.in1.handled = none := I1.ok.hd hc
      refine zip_begins2 (begins_text x t) (begins_text y u) trivial trivial fun h' hz hTI hTO h1 h2 hsz hk => ?_
      refine Calls.spliced_nil ?_
      have e1 : h'.IsStrIter s1.heap.objs.size (strIterType x) x t 0 := ⟨_, h1, rfl, rfl⟩
      have e2' : h'.IsStrIter (s1.heap.objs.size + 1) (strIterType y) y u 0 := ⟨_, h2, rfl, rfl⟩
      have hx' : min x.cps.size y.cps.size ≤ sizeLine := Nat.le_trans (Nat.min_le_left _ _) hx
      have low5 : s1.heap.objs.size + 4 < h'.objs.size ∧ s1.heap.objs.size + 2 < h'.objs.size ∧ s1.heap.objs.size + 3 < h'.objs.size ∧ s1.heap.objs.size < h'.objs.size ∧ s1.heap.objs.size + 1 < h'.objs.size := by
        rw [hsz]
        exact ⟨Nat.add_lt_add_left (by decide) _, Nat.add_lt_add_left (by decide) _, Nat.add_lt_add_left (by decide) _, Nat.lt_add_of_pos_right (by decide), Nat.add_lt_add_left (by decide) _⟩
      have lowA : ∀ b ∈ ([s1.heap.objs.size] : List Addr), b < h'.objs.size := fun b hb => by
        rw [List.mem_singleton.mp hb]
        exact low5.2.2.2.1
      have lowB : ∀ b ∈ ([s1.heap.objs.size + 1] : List Addr), b < h'.objs.size := fun b hb => by
        rw [List.mem_singleton.mp hb]
        exact low5.2.2.2.2
      refine zl_call (s := { s1 with heap := h' }) (A := X.A) (zip_sep2 (fp1 := []) (fp2 := []) (by simp) (by simp)) (Draws.text hh s1.heap.objs.size x t) (Draws.text hh (s1.heap.objs.size + 1) y u) ⟨hTI, e1, e2', hz, _, _, hTO⟩
        low5 lowA lowB hx'
        fun h'' tk acc c as hk2 hS hl hG hacc => ?_
      obtain ⟨H', k1, k2, k3, k4, k5, k6, J⟩ := zips_laid (tk := tk) (lo := h'.objs.size) (ps := zipV x y) I1 (by rw [hsz]; exact Nat.le_add_right _ _) (by rw [zipV_len]; exact hx') (fun b o e => hk2 b o
          (Nat.ne_of_lt (Nat.lt_of_lt_of_le (Heap.lt_size e) (Nat.le_add_right _ _))) (Nat.ne_of_lt (Nat.lt_of_lt_of_le (Heap.lt_size e) (Nat.le_add_right _ _))) (Nat.ne_of_lt (Heap.lt_size e)) (Nat.ne_of_lt (Nat.lt_of_lt_of_le (Heap.lt_size e) (Nat.le_add_right _ _))) (hk b o e)) hS (by rw [zipV_len]; exact hl) hG.rise hG.above
        (fun j a q ea eq => by
          obtain ⟨x1, x2, ⟨c1, t1, ec1, rfl⟩, ⟨c2, t2, ec2, rfl⟩, f3⟩ := hG.pairs j a ea
          have ez : (zipV x y)[j]? = some (sg c1, sg c2) := by
            simp [zipV, List.zip, List.getElem?_zipWith, ec1, ec2]
          rw [ez] at eq
          cases eq
          exact ⟨_, _, ⟨t1, rfl⟩, ⟨t2, rfl⟩, f3⟩) hacc
      exact ⟨.ref _, H', J, rfl, q1 H' _ as k1 k2 k3 k4 k5 k6⟩
end
end FYR

set_option Elab.async false
set_option linter.all false
set_option maxRecDepth 100000
set_option maxHeartbeats 4000000
/-! defs whose promise leans on «no repr is under way» (A.guards = some []): FnG; repr of data -/
namespace FYR
open PySem PySem.Spec PyProof.Rows L2
structure FnG (P : Program) (w : World) (K : PySem.W.Frag) (mg : Str → Option Value) (base : Heap) (k : Nat) (f : Addr) (fd : FuncData) (ps : List Str) (sp : Sp) : Prop where
  len : ∀ vs H Q E, sp vs H Q E → vs.length = ps.length
  run : ∀ (A : Around) (outer : List Env) (s : Shared) (H : Hp) (args : Args) (us : List Value) (vs : List V) (Q : VK) (E : XK), A.guards = some [] → Room k A → Env0 P w K mg base A outer s H → BindsTo s fd args (ps.zip us) → Vals vs us → sp vs H Q E →
    codeAny (model P w) A (.call (.ref f) args) (CR CX0 outer P w H s Q E) s
section
variable {P : Program} {w : World} {K : PySem.W.Frag} {mg : Str → Option Value} {base : Heap}
theorem fnG_of {x qual : Str} {st : Stmt} {f : Addr} {fd : FuncData} {N ps : List Str} {k : Nat} {sp : Sp} (F : Fun K x qual st f fd) (S : FnScope N ps (defScope st)) (len : ∀ vs H Q E, sp vs H Q E → vs.length = ps.length)
    (hbody : ∀ (cdv : Value) (A : Around) (outer : List Env) (s : Shared) (H : Hp) (vs : List V) (Q : VK) (E : XK), A.guards = some [] → Room k (A.deeper (envOfC qual (defScope st) s.heap.objs.size f cdv)) → sp vs H Q E →
      ∃ t, PSs (cxOf CX0 P w K mg base N qual (defScope st) f cdv A outer s H E).nox (defBody st) t ∧ t { nx := fun _ H' => Q .non H', rt := Q } (start N vs) H) : FnG P w K mg base (k + 1) f fd ps sp := by
  obtain ⟨oc, od, kV, doc, pm, an, cdv, ct, osl, rfl, lk, hcd⟩ := F.ex
  refine ⟨len, fun A outer s H args us vs Q E hgd hr e0 hb r hsp => ?_⟩
  have hl := len _ _ _ _ hsp
  have kin : K.In s.heap := e0.mod.kin.keeps fun b o e => (e0.bs b o e).1
  have nolim : s.heap.NoLimit := e0.mod.nolimit.keeps fun b o e => (e0.bs b o e).1
  have kinds : ∀ y ∈ ps.zip us, (defScope st).names.lookup y.1 = some .local ∨ ((defScope st).names.lookup y.1 = some .cell ∧ ((cellsFrom (s.heap.objs.size + 1) (defScope st).names []).lookup y.1).isSome = true) := by
    rintro ⟨n, v⟩ hy
    exact (S.par n (List.of_mem_zip hy).1).imp id fun q => ⟨q, PySem.W.cellsFrom_some _ _ _ (.inl q)⟩
  refine codeAny_call_function hr.depth (kin _ _ lk) rfl S.co S.gen rfl (PySem.W.codeRec_of kin hcd) (hb _ _ _ _ ?_)
  refine wpAny_newFunctionEnv_cells S.kind kinds fun env he s1 x => ?_
  subst he
  refine ⟨nolim.keeps x.toInCall.keep, codeAny_func ?_⟩
  obtain ⟨t, ht, hq⟩ := hbody cdv A outer s H vs Q E hgd (hr.deeper _) hsp
  have I : Inv (cxOf CX0 P w K mg base N qual (defScope st) f cdv A outer s H E) [] (start N vs) H s1 := inv_start S hr.hd e0 hl r x
  refine wpAny_mono (ht.nox.run [] s1 (start N vs) H _ I hq) (fun fl s' hs => ?_) fun e s' hs => hs
  cases fl with
  | ret u =>
    obtain ⟨v, σ', H', J, rv, q⟩ := hs
    exact ⟨v, H', J.os, J.bare, J.base, J.hok, rv, q⟩
  | next =>
    obtain ⟨σ', H', J, q⟩ := hs
    exact ⟨.non, H', J.os, J.bare, J.base, J.hok, rfl, q⟩
  | brk =>
    obtain ⟨_, _, _, q⟩ := hs
    exact q.elim
  | cont =>
    obtain ⟨_, _, _, q⟩ := hs
    exact q.elim
end
section
variable {X : Cx} {k : Nat} {f : Addr} {fd : FuncData} {ps : List Str} {sp : Sp} {x : Str} {p pos : Pos} {e : Expr} {es : List Expr} {t : TA}
theorem pe_callG (F : FnG X.prog X.w X.K X.mg X.base k f fd ps sp) (hgd : X.A.guards = some []) (hr : Room k X.A) (hg : Gl X x) (hm : X.mg x = some (.ref f)) (hk : PySem.W.keepIn X.K (.ref f) = true) (hb : Binds X.K fd ps [])
    (ha : PA X (e :: es) t) (hdb : (x == ("__debug__" : Str)) = false := by decide) (he : starEach (e :: es) X.env = (false, eval e X.env) :: starEach es X.env := by rfl) (hpl : (backTo pos (starEach es X.env)).any (·.1) = false := by rfl) :
    PE X (.Call (.Name x p) (e :: es) [] pos) (tCall sp [] E0 t) := by
  refine ⟨fun pins s σ H Q I h => ?_⟩
  refine wpAny_Call_Name_kw (ld_glob I hg hm ?_ hdb)
  refine PySem.W.callWith_K (h₀ := X.base) I.ok.mod.kin hk (thn (ha.run pos pins s σ H _ I h) fun us s1 ⟨vs, H1, I1, r, q⟩ => ⟨I1.kIn, ?_⟩) he hpl
  simp only [List.append_nil] at q
  show wpAny (model X.prog X.w) X.A (call (.ref f) us) (EP X pins σ Q) X.xe s1
  have hl : us.length = ps.length := by rw [← r.length]; exact F.len _ _ _ _ q
  refine wpAny_call (codeAny_mono (F.run X.A X.stack s1 H1 ⟨us, []⟩ us vs Q E0 hgd hr I1.env0 (by have z := hb s1 us I1.kIn (by rw [List.append_nil]; exact hl); rw [List.append_nil] at z; exact z) r q) fun r s' hq => ?_)
  cases r with
  | error e => exact False.elim hq
  | ok fl =>
    cases fl with
    | ret u => exact I1.after hq
    | next => exact False.elim hq
    | brk => exact False.elim hq
    | cont => exact False.elim hq

/-! ### repr of data -/
def rReprD (K : PySem.W.Frag) : List V → Hp → VK → Prop := fun xs H Q => ∃ (v : V) (d : PyData), xs = [v] ∧ Dp K H v d ∧ d.showable = true ∧ d.hasDict = false ∧ d.depth ≤ 30 ∧ d.shown.length ≤ sizeLine ∧ Q (.str d.shown) H
theorem call_reprD (hgd : X.A.guards = some []) (hr : Room k X.A) : CallR X (.builtin "repr") (rReprD X.K) := by
  intro pins s σ H xs us Q I rv h
  obtain ⟨v, d, rfl, hd, h1, h2, h3, h4, q⟩ := h
  obtain ⟨u, rfl, ru⟩ := rv.one
  have hu := hr.units
  have big : ∀ a, v = .ref a → wpAny (model X.prog X.w) X.A (call (.builtin "repr") [u]) (EP X pins σ Q) X.xe s := by
    rintro a rfl
    obtain ⟨as, rd⟩ := Dp.reads I d _ u hd ru
    cases ru
    exact repr_of_reads' rd h1 (PyData.noDict_hsm h2) hgd (by omega) (fun _ _ e => e) (fun h' t tk hk => ⟨.str _, H, I.kept (t' := tk) hk, ⟨_, rfl⟩, q⟩) h4
  cases hd with
  | non =>
    cases ru
    rw [PyData.shown_none] at q
    exact PySem.P.repr_of_none ⟨.str _, H, I.tok _, ⟨_, rfl⟩, q⟩
  | bl b =>
    cases ru
    rw [PyData.shown_bool] at q
    refine PySem.P.repr_of_bool ⟨.str _, H, I.tok _, ⟨_, rfl⟩, ?_⟩
    cases b <;> exact q
  | int i =>
    obtain ⟨t, rfl⟩ := ru
    rw [PyData.shown_int] at q
    exact PySem.P.repr_of_int (by simpa [PyData.showable] using h1) ⟨.str _, H, I.tok _, ⟨_, rfl⟩, q⟩
  | str y =>
    obtain ⟨t, rfl⟩ := ru
    rw [PyData.shown_str] at q h4
    exact PySem.P.repr_of_str ⟨.str _, H, I.tok _, ⟨_, rfl⟩, q⟩ h4
  | lst _ _ => exact big _ rfl
  | tup _ _ => exact big _ rfl
end
/-! ### the end of a law row over FnG -/
theorem law_callG {P : Program} {w : World} {K : PySem.W.Frag} {mg mb : Str → Option Value} {k : Nat} {fa a : Addr} {fd : FuncData} {x : Str} {sp : Sp} {s₁ : Shared} {vs : List Value} {ns : List Int}
    (KX : K.In s₁.heap) (hns : s₁.heap.Ns mainGlobals mg) (hb : s₁.heap.Ns builtinsNs mb) (hbb : ∀ x : Str, x ≠ "__name__" → mb x = bootBuiltins x) (hlim : s₁.heap.NoLimit) (hg : s₁.gens = #[])
    (ha : s₁.heap.get? a = some { cls := .type "list", data := .seq vs.toArray }) (hi : IntsAre vs ns) (hl : ns.length ≤ sizeLine) (hr : Room k callerA)
    (F : ∀ base : Heap, K.In base → base.Ns mainGlobals mg → FnG P w K mg base k fa fd [x] sp) (hbind : ∀ (s : Shared) (u : Value), BindsTo s fd ⟨[u], []⟩ [(x, u)])
    (hsp : ∀ H : Hp, Only H → SqL K H a (ns.map V.int) → sp [.ref a] H (fun v _ => v = .bl true) fun _ _ _ => False) :
    codeAny (model P w) callerA (.call (.ref fa) ⟨[.ref a], []⟩) (fun r s' => r = .ok (.ret (.bool true)) ∧ OldK s₁.heap s'.heap ∧ s'.os = s₁.os ∧ AllBare s'.gens) s₁ := by
  have rv := vals_ints hi
  have core : ∀ H : Hp, Only H → SqL K H a (ns.map V.int) → HOk P w H s₁.heap → (∀ b, H b ≠ none → b = a ∧ K.lookup a = none) →
      codeAny (model P w) callerA (.call (.ref fa) ⟨[.ref a], []⟩) (fun r s' => r = .ok (.ret (.bool true)) ∧ OldK s₁.heap s'.heap ∧ s'.os = s₁.os ∧ AllBare s'.gens) s₁ := by
    intro H hO hS hok hA
    have free : ∀ {b : Addr}, (∀ q : b = a, K.lookup a = none → False) → H b = none := fun {b} z => by
      cases q : H b with
      | none => rfl
      | some u =>
        obtain ⟨e1, e2⟩ := hA b (by rw [q]; simp)
        exact (z e1 e2).elim
    have nsK : ∀ {b : Addr} {m : Str → Option Value}, s₁.heap.Ns b m → (hidT s₁.heap H).Ns b m := fun {b m} ⟨o, es, ep, e, d, r⟩ =>
      ⟨o, es, ep, hidT_get e (free fun q _ => by rw [q, ha] at e; cases e; cases d), d, r⟩
    have hKb : K.In (hidT s₁.heap H) := fun b o e => hidT_get (KX b o e) (free fun q z => by rw [q, z] at e; cases e)
    have hM : Mod K mg (hidT s₁.heap H) := ⟨hKb, nsK hns, ⟨mb, nsK hb, hbb⟩, let ⟨mc, h1, h2⟩ := hlim; ⟨mc, nsK h1, h2⟩⟩
    have e0 : Env0 P w K mg (hidT s₁.heap H) callerA [] s₁ H := ⟨rfl, hM, fun b o e => of_hidT e, Nat.le_of_eq (hidT_size _ _), trivial, fun b hb => absurd (show b ∈ ([] : List Addr) from hb) (by simp), hok, .of_eq hg⟩
    refine codeAny_mono ((F _ hKb (nsK hns)).run callerA [] s₁ H ⟨[.ref a], []⟩ [.ref a] [.ref a] _ _ rfl hr e0 (hbind s₁ (.ref a)) (.cons rfl .nil) (hsp H hO hS)) fun r s' h => ?_
    cases r with
    | error e => exact False.elim h
    | ok fl =>
      cases fl with
      | next => exact False.elim h
      | brk => exact False.elim h
      | cont => exact False.elim h
      | ret u =>
        obtain ⟨v, H', os, bare, un, hok', r', q⟩ := h
        cases (show v = .bl true from q)
        cases (show u = Value.bool true from r')
        refine ⟨rfl, OldK.of_keep fun b o e => ?_, os, bare⟩
        rcases hO b with z | ⟨ob, xs, z⟩
        · exact un.keep b o e z (fun y => absurd (show b ∈ ([] : List Addr) from y) (by simp)) (by simp)
        · obtain ⟨e1, _⟩ := hok b _ z
          obtain ⟨e2, _⟩ := hok' b _ (un.frzs b ob _ z)
          rw [e] at e1
          cases e1
          exact e2
  cases hk : K.lookup a with
  | some o =>
    have e := KX a o hk
    rw [ha] at e
    cases e
    exact core (fun _ => none) (fun _ => .inl rfl) (.inr ⟨_, vs.toArray, _, hk, rfl, rfl, rfl, by rw [List.size_toArray, hi.length]; exact hl, by simpa using rv⟩) (fun b u z => nomatch z) fun b z => absurd rfl z
  | none =>
    refine core (fun b => if b = a then some (.frz { cls := .type "list", data := .seq vs.toArray } (.lst (ns.map V.int))) else none) (fun b => ?_) (.inl (.inr ⟨_, if_pos rfl⟩)) (fun b u z => ?_) fun b z => ?_
    · exact (Decidable.em (b = a)).elim (fun hb => .inr ⟨_, _, if_pos hb⟩) fun hb => .inl (if_neg hb)
    · by_cases hb : b = a
      · cases (if_pos hb).symm.trans z
        subst hb
        exact ⟨ha, by rw [List.length_map]; exact hl, vs, _, rv, ha⟩
      · cases (if_neg hb).symm.trans z
    · exact (Decidable.em (b = a)).elim (fun hb => ⟨hb, hk⟩) fun hb => absurd (if_neg hb) z
theorem walkG {l : PySem.W.OpenLaw} {n k : Nat} {q : Program} {loose : List Str} {XP : (Str → Option Value) → Heap → Prop} {YP : World → Heap → Prop} {d : DefRec} {K : Params → PySem.W.Frag} {sp : PySem.W.Frag → Sp} {x : Str}
    (hn : l.most = some n) (hn2 : n ≤ sizeLine) (hdf : d.params.defaults = []) (hr : Room k callerA)
    (hY : ∀ (w : World) (h : Heap), YP w h → (K w.params).In h)
    (F : ∀ (w : World) (mg : Str → Option Value) (fa : Addr) (h : Heap), (K w.params).In h → h.Ns mainGlobals mg → mg d.name = some (.ref fa) →
      ∃ fd : FuncData, (∀ (s : Shared) (u : Value), BindsTo s fd ⟨[u], []⟩ [(x, u)]) ∧
        ∀ base : Heap, (K w.params).In base → base.Ns mainGlobals mg → FnG l.prog w (K w.params) mg base k fa fd [x] (sp (K w.params)))
    (hsp : ∀ (K : PySem.W.Frag) (H : Hp) (a : Addr) (ns : List Int), ns.length ≤ n → Only H → SqL K H a (ns.map V.int) → sp K [.ref a] H (fun v _ => v = .bl true) fun _ _ _ => False) :
    PySem.W.WalkO q loose XP YP l.row.toRowW d [] (fun f vs => PySem.call f vs) := by
  refine Att.attach_call hn hdf fun w s₀ s₁ mg mb fa o pm cd doc a vs ns G Y ho hd hcd hmg hobj hints hlen hg => ?_
  obtain ⟨fd, hb, hF⟩ := F w mg fa _ (hY w _ Y) G.T.g hmg
  exact law_callG (hY w _ Y) G.T.g G.T.b G.T.builtins G.T.nolimit hg hobj hints (Nat.le_trans hlen hn2) hr hF hb fun H hO hS => hsp _ H a ns hlen hO hS
end FYR

set_option Elab.async false
set_option linter.all false
set_option maxRecDepth 100000
set_option maxHeartbeats 4000000
namespace FY
open PySem L2 FYR
def cd (b : Bool) : Nat := if b then 49 else 48
def sgn (b : Bool) : Str := ⟨#[cd b]⟩
def tx (bs : List Bool) : Str := ⟨(bs.map cd).toArray⟩
theorem cd_inj {a b : Bool} (h : cd a = cd b) : a = b := by cases a <;> cases b <;> first | rfl | (exact absurd h (by decide))
theorem tx_inj {a b : List Bool} (h : tx a = tx b) : a = b := by
  have h1 : a.map cd = b.map cd := by
    have := congrArg Str.cps h
    simpa [tx] using this
  exact (List.map_inj_right (fun x y => cd_inj)).mp h1
theorem tx_eq (a b : List Bool) : decide (V.str (tx a) = V.str (tx b)) = decide (a = b) := by
  by_cases h : a = b
  · subst h; simp
  · rw [decide_eq_false h, decide_eq_false]
    intro q
    exact h (tx_inj (V.str.inj q))
theorem sgn_tx (b : Bool) : sgn b = tx [b] := rfl
theorem s0 : ("0" : Str) = sgn false := by decide +kernel
theorem s1 : ("1" : Str) = sgn true := by decide +kernel
theorem se : ("" : Str) = tx [] := by decide +kernel
theorem tx_size (bs : List Bool) : (tx bs).cps.size = bs.length := by simp [tx]
theorem tx_len (bs : List Bool) : (tx bs).length = bs.length := tx_size bs
theorem tx_get (bs : List Bool) (i : Nat) : (tx bs).cps[i]? = (bs[i]?).map cd := by simp [tx]
theorem tx_app (a b : List Bool) : tx a ++ tx b = tx (a ++ b) := by
  show (⟨(tx a).cps ++ (tx b).cps⟩ : Str) = _
  simp [tx]
theorem str_ext {a b : Str} (h : a.cps.toList = b.cps.toList) : a = b := by
  obtain ⟨x⟩ := a
  obtain ⟨y⟩ := b
  exact congrArg Str.mk (Array.toList_inj.mp h)
theorem tx_toList (bs : List Bool) : (tx bs).cps.toList = bs.map cd := by simp [tx]
theorem join_def (sep : Str) (ys : List Str) : Txt.join sep ys = Str.join sep ys := by
  have h := PyProof.Rows.join_closes (sep := sep) (sep' := sep) (ys := ys) rfl
  simpa using h
theorem join_tx : ∀ (ys : List (List Bool)), Txt.join (tx []) (ys.map tx) = tx ys.flatten := by
  intro ys
  rw [join_def]
  induction ys with
  | nil => rfl
  | cons y r ih =>
    cases r with
    | nil =>
      show tx y = tx [y].flatten
      simp
    | cons z r =>
      show tx y ++ tx [] ++ Str.join (tx []) ((z :: r).map tx) = _
      rw [ih, tx_app, tx_app]
      simp
theorem flat_sgn (bs : List Bool) : (bs.map fun b => [b]).flatten = bs := by
  induction bs with
  | nil => rfl
  | cons b r ih => simp [ih]
theorem join_sgn (bs : List Bool) : Txt.join (tx []) (bs.map sgn) = tx bs := by
  have h := join_tx (bs.map fun b => [b])
  rw [flat_sgn, List.map_map] at h
  exact h
theorem cut_tx (bs : List Bool) (lo hi : Option Int) : cutS (tx bs) lo hi = tx ((bs.drop (HT.sIx bs.length 0 lo)).take (HT.sIx bs.length bs.length hi - HT.sIx bs.length 0 lo)) := by
  apply str_ext
  rw [tx_toList]
  unfold cutS
  rw [tx_len, tx_toList]
  simp [List.map_take, List.map_drop]
theorem cut_to (bs : List Bool) (k : Nat) : cutS (tx bs) none (some (k : Int)) = tx (bs.take k) := by
  rw [cut_tx, HT.sIx_none, HT.sIx_nat]
  congr 1
  simp only [List.drop_zero, Nat.sub_zero]
  rw [← List.take_take, List.take_of_length_le (Nat.le_refl _)]
theorem step_tx (bs : List Bool) : stepS (tx bs) (some 1) none 2 = tx (halfL bs) := by
  have e1 : Builtin.Str.strSliceIndices (some 1) none 2 bs.length = (List.range (bs.length / 2)).map fun k => 2 * k + 1 := by
    unfold Builtin.Str.strSliceIndices sliceRange
    simp only [show ((2 : Int) > 0) = True from by simp, if_true]
    have hc : max 0 (min (if (1 : Int) < 0 then 1 + (bs.length : Int) else 1) (bs.length : Int)) = min 1 (bs.length : Int) := by
      rw [if_neg (by decide)]; omega
    rw [hc]
    by_cases h : min (1 : Int) bs.length < bs.length
    · rw [if_pos h]
      have e2 : (((bs.length : Int) - min 1 (bs.length : Int) + 2 - 1) / 2).toNat = bs.length / 2 := by omega
      rw [e2]
      refine List.map_congr_left fun k _ => ?_
      omega
    · rw [if_neg h]
      have e2 : bs.length / 2 = 0 := by omega
      simp [e2]
  unfold stepS
  rw [if_neg (by simp), tx_len, e1]
  apply str_ext
  rw [tx_toList]
  show List.filterMap _ _ = _
  rw [List.filterMap_map]
  clear e1
  have key : ∀ (n : Nat) (l : List Bool), l.length ≤ n → List.filterMap ((fun x => (tx l).cps[x]?) ∘ fun k => 2 * k + 1) (List.range (l.length / 2)) = (halfL l).map cd := by
    intro n
    induction n with
    | zero =>
      intro l hl
      cases l with
      | nil => rfl
      | cons _ _ => simp at hl
    | succ n ih =>
      intro l hl
      match l, hl with
      | [], _ => rfl
      | [x], _ => simp [halfL]
      | x :: y :: r, hl =>
        have e : (x :: y :: r).length / 2 = r.length / 2 + 1 := by simp only [List.length_cons]; omega
        rw [e, List.range_succ_eq_map, List.filterMap_cons]
        have e0 : ((fun i => (tx (x :: y :: r)).cps[i]?) ∘ fun k => 2 * k + 1) 0 = some (cd y) := by
          show (tx (x :: y :: r)).cps[1]? = _
          rw [tx_get]; rfl
        rw [e0]
        show cd y :: _ = cd y :: _
        congr 1
        rw [List.filterMap_map]
        have hr := ih r (by simp only [List.length_cons] at hl; omega)
        rw [← hr]
        congr 1
        funext k
        show (tx (x :: y :: r)).cps[2 * (k + 1) + 1]? = (tx r).cps[2 * k + 1]?
        rw [tx_get, tx_get, show 2 * (k + 1) + 1 = (2 * k + 1) + 1 + 1 by omega]
        rfl
  exact key bs.length bs (Nat.le_refl _)
theorem starts_tx (a b : List Bool) : Txt.startswith (tx a) (tx b) = decide (b <+: a) := by
  unfold Txt.startswith Builtin.Str.subAt
  rw [tx_len, tx_len, Nat.zero_add]
  by_cases h : b <+: a
  · obtain ⟨r, rfl⟩ := h
    rw [decide_eq_true (List.prefix_append b r)]
    simp [tx]
  · rw [decide_eq_false h]
    by_cases hl : b.length ≤ a.length
    · have hn : ((tx a).cps.extract 0 b.length == (tx b).cps) = false := by
        rw [beq_eq_false_iff_ne]
        intro q
        apply h
        have q2 := congrArg Array.toList q
        have q3 : (a.take b.length).map cd = b.map cd := by simpa [tx, List.map_take] using q2
        have q4 := (List.map_inj_right (fun x y => cd_inj)).mp q3
        rw [← q4]
        exact List.take_prefix _ _
      rw [hn]; simp
    · simp [hl]
theorem int_sgn (b : Bool) : PySem.intText? (sgn b) = some (if b then 1 else 0) := by
  cases b <;> decide +kernel
theorem str_bit (b : Bool) : ((toString (if b then (1 : Int) else 0) : String) : Str) = sgn b := by
  cases b <;> decide +kernel
end FY

set_option Elab.async false
set_option linter.all false
set_option maxRecDepth 100000
set_option maxHeartbeats 4000000
namespace FY
open PySem L2 FYR
def W1.s : W1 → Str
  | .no => "not" | .twice => "twice" | .half => "half" | .change => "change" | .count => "count"
def Tm.word : Tm → Str
  | .inn => "in" | .one w _ => w.s | .late _ _ => "late" | .byy _ _ _ _ _ _ => "by" | .keep _ _ => "keep" | .thn _ _ => "then"
/-- what else stands in the tuple ahead of the parts -/
def Tm.extra : Tm → List Str
  | .late b _ => [sgn b] | .byy a b c d _ _ => [tx [a, b, c, d]] | _ => []
def Tm.parts : Tm → List Tm
  | .inn => [] | .one _ t => [t] | .late _ t => [t] | .byy _ _ _ _ t u => [t, u] | .keep t u => [t, u] | .thn t u => [t, u]
def Tm.isIn : Tm → Bool | .inn => true | _ => false
def Tm.data : Tm → PyData
  | .inn => .str "in"
  | .one w t => .tuple [.str w.s, t.data]
  | .late b t => .tuple [.str "late", .str (sgn b), t.data]
  | .byy a b c d t u => .tuple [.str "by", .str (tx [a, b, c, d]), t.data, u.data]
  | .keep t u => .tuple [.str "keep", t.data, u.data]
  | .thn t u => .tuple [.str "then", t.data, u.data]
/-- the value v is the term t -/
def TA (H : Hp) : V → Tm → Prop
  | v, .inn => v = .str "in"
  | v, .one w t => ∃ a x, v = .ref a ∧ H a = some (.tup [.str w.s, x]) ∧ TA H x t
  | v, .late b t => ∃ a x, v = .ref a ∧ H a = some (.tup [.str "late", .str (sgn b), x]) ∧ TA H x t
  | v, .byy a b c d t u => ∃ p x y, v = .ref p ∧ H p = some (.tup [.str "by", .str (tx [a, b, c, d]), x, y]) ∧ TA H x t ∧ TA H y u
  | v, .keep t u => ∃ p x y, v = .ref p ∧ H p = some (.tup [.str "keep", x, y]) ∧ TA H x t ∧ TA H y u
  | v, .thn t u => ∃ p x y, v = .ref p ∧ H p = some (.tup [.str "then", x, y]) ∧ TA H x t ∧ TA H y u
/-- the tuples stay -/
def Tups (H H' : Hp) : Prop := ∀ a xs, H a = some (.tup xs) → H' a = some (.tup xs)
theorem Tups.of {H H' : Hp} (h : Same H H') : Tups H H' := fun a xs e => h a _ e
theorem Tups.refl (H : Hp) : Tups H H := fun _ _ e => e
theorem Tups.trans {H H1 H2 : Hp} (a : Tups H H1) (b : Tups H1 H2) : Tups H H2 := fun x xs e => b x xs (a x xs e)
theorem TA.keep {H H' : Hp} (k : Tups H H') : ∀ {t : Tm} {v : V}, TA H v t → TA H' v t := by
  intro t
  induction t with
  | inn => intro v h; exact h
  | one w t ih => rintro v ⟨a, x, e, h, r⟩; exact ⟨a, x, e, k _ _ h, ih r⟩
  | late b t ih => rintro v ⟨a, x, e, h, r⟩; exact ⟨a, x, e, k _ _ h, ih r⟩
  | byy a b c d t u i1 i2 => rintro v ⟨p, x, y, e, h, r, q⟩; exact ⟨p, x, y, e, k _ _ h, i1 r, i2 q⟩
  | keep t u i1 i2 => rintro v ⟨p, x, y, e, h, r, q⟩; exact ⟨p, x, y, e, k _ _ h, i1 r, i2 q⟩
  | thn t u i1 i2 => rintro v ⟨p, x, y, e, h, r, q⟩; exact ⟨p, x, y, e, k _ _ h, i1 r, i2 q⟩
/-- a node that is no "in", whichever -/
theorem TA.node {H : Hp} {t : Tm} {v : V} (h : TA H v t) (hn : t.isIn = false) : ∃ a ws, v = .ref a ∧ H a = some (.tup (.str t.word :: (t.extra.map V.str ++ ws))) ∧ Paired (TA H) ws t.parts := by
  cases t with
  | inn => cases hn
  | one w t => obtain ⟨a, x, e, h, r⟩ := h; exact ⟨a, [x], e, h, .cons r .nil⟩
  | late b t => obtain ⟨a, x, e, h, r⟩ := h; exact ⟨a, [x], e, h, .cons r .nil⟩
  | byy a b c d t u => obtain ⟨p, x, y, e, h, r, q⟩ := h; exact ⟨p, [x, y], e, h, .cons r (.cons q .nil)⟩
  | keep t u => obtain ⟨p, x, y, e, h, r, q⟩ := h; exact ⟨p, [x, y], e, h, .cons r (.cons q .nil)⟩
  | thn t u => obtain ⟨p, x, y, e, h, r, q⟩ := h; exact ⟨p, [x, y], e, h, .cons r (.cons q .nil)⟩
theorem TA.dp {K : PySem.W.Frag} {H : Hp} : ∀ {t : Tm} {v : V}, TA H v t → Dp K H v t.data := by
  intro t
  induction t with
  | inn => rintro v rfl; exact .str _
  | one w t ih => rintro v ⟨a, x, rfl, h, r⟩; exact .tup (SqT.of h) (.cons (.str _) (.cons (ih r) .nil))
  | late b t ih => rintro v ⟨a, x, rfl, h, r⟩; exact .tup (SqT.of h) (.cons (.str _) (.cons (.str _) (.cons (ih r) .nil)))
  | byy a b c d t u i1 i2 => rintro v ⟨p, x, y, rfl, h, r, q⟩; exact .tup (SqT.of h) (.cons (.str _) (.cons (.str _) (.cons (i1 r) (.cons (i2 q) .nil))))
  | keep t u i1 i2 => rintro v ⟨p, x, y, rfl, h, r, q⟩; exact .tup (SqT.of h) (.cons (.str _) (.cons (i1 r) (.cons (i2 q) .nil)))
  | thn t u i1 i2 => rintro v ⟨p, x, y, rfl, h, r, q⟩; exact .tup (SqT.of h) (.cons (.str _) (.cons (i1 r) (.cons (i2 q) .nil)))
theorem sgn_ok (b : Bool) : PyData.strOk (sgn b) = true := by cases b <;> decide +kernel
theorem tab_ok (a b c d : Bool) : PyData.strOk (tx [a, b, c, d]) = true := by cases a <;> cases b <;> cases c <;> cases d <;> decide +kernel
theorem w1_ok (w : W1) : PyData.strOk w.s = true := by cases w <;> decide +kernel
theorem lay_tm (t : Tm) : t.data.canLay0 = true := by
  induction t with
  | inn => decide +kernel
  | one w t ih => simp [Tm.data, PyData.canLay0, PyData.canLayAll0, ih, w1_ok]
  | late b t ih => simp [Tm.data, PyData.canLay0, PyData.canLayAll0, ih, sgn_ok]; decide +kernel
  | byy a b c d t u i1 i2 => simp [Tm.data, PyData.canLay0, PyData.canLayAll0, i1, i2, tab_ok]; decide +kernel
  | keep t u i1 i2 => simp [Tm.data, PyData.canLay0, PyData.canLayAll0, i1, i2]; decide +kernel
  | thn t u i1 i2 => simp [Tm.data, PyData.canLay0, PyData.canLayAll0, i1, i2]; decide +kernel
theorem depth_tm (t : Tm) : t.data.depth ≤ t.nodes := by
  induction t with
  | inn => simp [Tm.data, PyData.depth]
  | one w t ih => simp [Tm.data, PyData.depth, PyData.depthAll, Tm.nodes]; omega
  | late b t ih => simp [Tm.data, PyData.depth, PyData.depthAll, Tm.nodes]; omega
  | byy a b c d t u i1 i2 => simp [Tm.data, PyData.depth, PyData.depthAll, Tm.nodes]; omega
  | keep t u i1 i2 => simp [Tm.data, PyData.depth, PyData.depthAll, Tm.nodes]; omega
  | thn t u i1 i2 => simp [Tm.data, PyData.depth, PyData.depthAll, Tm.nodes]; omega
theorem shp_tm {t : Tm} (h : t.nodes ≤ 40) : SeqAt.shaped t.data = true := by
  unfold SeqAt.shaped
  have := depth_tm t
  simp [lay_tm]
  omega
theorem eqv_in (t : Tm) : PyData.eqv t.data (.str "in") = t.isIn := by
  cases t <;> simp [Tm.data, PyData.eqv, Tm.isIn]
theorem shp_in : SeqAt.shaped (.str "in") = true := by decide +kernel
theorem same_new {H : Hp} {p : Addr} (h : H p = none) (o : HO) : Same H (upd H p o) := fun b u q => by rw [upd_ne (ne_of_none q h)]; exact q
theorem small5 {n : Nat} (h : n ≤ 100000) : n ≤ sizeLine := Nat.le_trans h (by decide)
theorem paired_keep {H H' : Hp} (k : Tups H H') : ∀ {ws : List V} {ts : List Tm}, Paired (TA H) ws ts → Paired (TA H') ws ts
  | _, _, .nil => .nil
  | _, _, .cons r q => .cons (r.keep k) (paired_keep k q)
theorem show_tm (t : Tm) : t.data.showable = true ∧ t.data.hasDict = false := by
  induction t with
  | inn => exact ⟨rfl, rfl⟩
  | one w t ih => simp [Tm.data, PyData.showable, PyData.showableAll, PyData.hasDict, PyData.hasDictAll, ih]
  | late b t ih => simp [Tm.data, PyData.showable, PyData.showableAll, PyData.hasDict, PyData.hasDictAll, ih]
  | byy a b c d t u i1 i2 => simp [Tm.data, PyData.showable, PyData.showableAll, PyData.hasDict, PyData.hasDictAll, i1, i2]
  | keep t u i1 i2 => simp [Tm.data, PyData.showable, PyData.showableAll, PyData.hasDict, PyData.hasDictAll, i1, i2]
  | thn t u i1 i2 => simp [Tm.data, PyData.showable, PyData.showableAll, PyData.hasDict, PyData.hasDictAll, i1, i2]
def op1 : Tm → List Bool → List Bool
  | .one w _, f => oneL w f
  | .late b _, f => lateL b f
  | _, f => f
def op2 : Tm → List Bool → List Bool → List Bool
  | .byy a b c d _ _, f, g => byL a b c d f g
  | .keep _ _, f, g => keepL f g
  | _, f, _ => f
end FY

set_option Elab.async false
set_option linter.all false
set_option maxRecDepth 100000
set_option maxHeartbeats 4000000
namespace FY
open PySem L2 FYR
def put : Tm → Tm → Tm
  | .inn, o => o
  | .one w t, o => .one w (put t o)
  | .late b t, o => .late b (put t o)
  | .byy a b c d t u, o => .byy a b c d (put t o) (put u o)
  | .keep t u, o => .keep (put t o) (put u o)
  | .thn t u, o => .thn (put t o) u
def plain : Tm → Tm
  | .inn => .inn
  | .one w t => .one w (plain t)
  | .late b t => .late b (plain t)
  | .byy a b c d t u => .byy a b c d (plain t) (plain u)
  | .keep t u => .keep (plain t) (plain u)
  | .thn t u => put (plain u) (plain t)
def Tm.dep : Tm → Nat
  | .inn => 1
  | .one _ t => t.dep + 1
  | .late _ t => t.dep + 1
  | .byy _ _ _ _ t u => max t.dep u.dep + 1
  | .keep t u => max t.dep u.dep + 1
  | .thn t u => max t.dep u.dep + 1
def noThn : Tm → Bool
  | .inn => true
  | .one _ t => noThn t
  | .late _ t => noThn t
  | .byy _ _ _ _ t u => noThn t && noThn u
  | .keep t u => noThn t && noThn u
  | .thn _ _ => false
theorem flow_put : ∀ (t o : Tm) (s : List Bool), flow (put t o) s = flow t (flow o s) := by
  intro t
  induction t with
  | inn => intro o s; rfl
  | one w t ih => intro o s; simp [put, flow, ih]
  | late b t ih => intro o s; simp [put, flow, ih]
  | byy a b c d t u i1 i2 => intro o s; simp [put, flow, i1, i2]
  | keep t u i1 i2 => intro o s; simp [put, flow, i1, i2]
  | thn t u i1 i2 => intro o s; simp [put, flow, i1]
theorem flow_plain : ∀ (t : Tm) (s : List Bool), flow (plain t) s = flow t s := by
  intro t
  induction t with
  | inn => intro s; rfl
  | one w t ih => intro s; simp [plain, flow, ih]
  | late b t ih => intro s; simp [plain, flow, ih]
  | byy a b c d t u i1 i2 => intro s; simp [plain, flow, i1, i2]
  | keep t u i1 i2 => intro s; simp [plain, flow, i1, i2]
  | thn t u i1 i2 => intro s; simp [plain, flow, flow_put, i1, i2]
theorem put_inn : ∀ t : Tm, put t .inn = t := by
  intro t
  induction t <;> simp_all [put]
theorem noThn_put : ∀ t o : Tm, noThn t = true → noThn o = true → noThn (put t o) = true := by
  intro t
  induction t <;> simp_all [put, noThn]
theorem noThn_plain : ∀ t : Tm, noThn (plain t) = true := by
  intro t
  induction t with
  | thn t u i1 i2 => exact noThn_put _ _ i2 i1
  | _ => simp_all [plain, noThn]
theorem plain_of : ∀ t : Tm, noThn t = true → plain t = t := by
  intro t
  induction t <;> simp_all [plain, noThn]
theorem plain_plain (t : Tm) : plain (plain t) = plain t := plain_of _ (noThn_plain t)
theorem Tm.dep_le (t : Tm) : t.dep ≤ t.nodes := by
  induction t with
  | inn => simp [Tm.dep, Tm.nodes]
  | one w t ih => simp [Tm.dep, Tm.nodes]; omega
  | late b t ih => simp [Tm.dep, Tm.nodes]; omega
  | byy a b c d t u i1 i2 => simp [Tm.dep, Tm.nodes]; omega
  | keep t u i1 i2 => simp [Tm.dep, Tm.nodes]; omega
  | thn t u i1 i2 => simp [Tm.dep, Tm.nodes]; omega
theorem Tm.dep_pos (t : Tm) : 1 ≤ t.dep := by cases t <;> simp [Tm.dep]
theorem dep_put (o : Tm) : ∀ t : Tm, (put t o).dep ≤ t.dep + o.dep := by
  intro t
  induction t with
  | inn => simp [put, Tm.dep]
  | one w t ih => simp [put, Tm.dep]; omega
  | late b t ih => simp [put, Tm.dep]; omega
  | byy a b c d t u i1 i2 => simp [put, Tm.dep]; omega
  | keep t u i1 i2 => simp [put, Tm.dep]; omega
  | thn t u i1 i2 => simp [put, Tm.dep]; omega
theorem dep_plain : ∀ t : Tm, (plain t).dep ≤ t.nodes := by
  intro t
  induction t with
  | inn => simp [plain, Tm.dep, Tm.nodes]
  | one w t ih => simp [plain, Tm.dep, Tm.nodes]; omega
  | late b t ih => simp [plain, Tm.dep, Tm.nodes]; omega
  | byy a b c d t u i1 i2 => simp [plain, Tm.dep, Tm.nodes]; omega
  | keep t u i1 i2 => simp [plain, Tm.dep, Tm.nodes]; omega
  | thn t u i1 i2 => have := dep_put (plain t) (plain u); simp [plain, Tm.nodes]; omega
theorem depth_dep (t : Tm) : t.data.depth ≤ t.dep := by
  induction t with
  | inn => simp [Tm.data, PyData.depth]
  | one w t ih => simp [Tm.data, PyData.depth, PyData.depthAll, Tm.dep]; omega
  | late b t ih => simp [Tm.data, PyData.depth, PyData.depthAll, Tm.dep]; omega
  | byy a b c d t u i1 i2 => simp [Tm.data, PyData.depth, PyData.depthAll, Tm.dep]; omega
  | keep t u i1 i2 => simp [Tm.data, PyData.depth, PyData.depthAll, Tm.dep]; omega
  | thn t u i1 i2 => simp [Tm.data, PyData.depth, PyData.depthAll, Tm.dep]; omega
theorem shp_dep {t : Tm} (h : t.dep ≤ 60) : SeqAt.shaped t.data = true := by
  unfold SeqAt.shaped
  have := depth_dep t
  simp [lay_tm]
  omega
theorem parts_dep {t u : Tm} (h : u ∈ t.parts) : u.dep + 1 ≤ t.dep := by
  cases t <;> simp [Tm.parts, Tm.dep] at h ⊢
  · subst h; omega
  · subst h; omega
  · rcases h with rfl | rfl <;> omega
  · rcases h with rfl | rfl <;> omega
  · rcases h with rfl | rfl <;> omega
theorem parts_few (t : Tm) : t.parts.length ≤ 2 := by cases t <;> simp [Tm.parts]
end FY

set_option Elab.async false
set_option linter.all false
set_option maxRecDepth 100000
set_option maxHeartbeats 4000000
/-! the rules with the written part named (for comprehensions' blocks) -/
namespace FYR
open PySem PySem.Spec PyProof.Rows L2
section
variable {X : Cx} (K : PySem.W.Frag) (hK : X.K = K)
include hK
theorem kIn : OpR X (compareOp .In) (rIn K false) := by subst hK; exact op_in_seq
theorem kNotIn : OpR X (compareOp .NotIn) (rIn K true) := by subst hK; exact op_notIn_seq
theorem kEqD (hu : X.A.units + 64 < cLine) : OpR X (compareOp .Eq) (rEqD K) := by subst hK; exact op_eqD hu
theorem kNeD (hu : X.A.units + 64 < cLine) : OpR X (compareOp .NotEq) (rNeD K) := by subst hK; exact op_neD hu
theorem kIxT : IxR X (rIxT K) := by subst hK; exact ix_tup
theorem kIxL : IxR X (rIxL K) := by subst hK; exact ix_list
theorem kSlT : SlR X (rSlT K) := by subst hK; exact sl_tup
theorem kSlL : SlR X (rSlL K) := by subst hK; exact sl_list
theorem kCatT : OpR X (binaryOp .Add) (rCatT K) := by subst hK; exact op_catT
theorem kIsi : CallR X (.builtin "isinstance") (rIsi K) := by subst hK; exact call_isi
def rLenK (K : PySem.W.Frag) : List V → Hp → VK → Prop := fun xs H Q => ∃ p ys, xs = [.ref p] ∧ (SqL K H p ys ∨ SqT K H p ys) ∧ Q (.int ys.length) H
theorem kLen : CallR X (.builtin "len") (rLenK K) := by subst hK; exact call_len_seq
theorem kAll (hc : X.calm = true) : CallR X (.builtin "all") (rAll K) := by subst hK; exact cr_all hc
theorem kSum (hc : X.calm = true) : CallR X (.builtin "sum") (rSum K) := by subst hK; exact cr_sum hc
theorem kExtT : MtM X "list.extend" (rExtendT K) := by subst hK; exact mt_extendT
theorem kTupG {es : List Expr} {k : Nat} {t : TGs} {n : Nat} {pos : Pos} (hc : X.calm = true) (h : PGs X es t)
    (hn : (assignEach es X.env).length = n := by rfl) (hst : (assignEach es X.env).findIdx? (·.1) = none := by rfl) : PG X (.Tuple es k pos) (gTup K n t) := by subst hK; exact pg_tup hc h hn hst
theorem kList {tg l : Expr} {tl : TE} (hl : PE X l tl) : PI X tg l (iList K tl) := by subst hK; exact pi_list hl
theorem kTup {tg l : Expr} {tl : TE} (hl : PE X l tl) : PI X tg l (iTup K tl) := by subst hK; exact pi_tup hl
def rJoin (K : PySem.W.Frag) : V → List V → Hp → VK → Prop := fun x xs H Q => ∃ a p, ∃ ys : List Str, x = .str a ∧ xs = [.ref p] ∧ (SqL K H p (ys.map V.str) ∨ SqT K H p (ys.map V.str)) ∧ (ys.map (·.length)).sum + ys.length * a.length ≤ 16777216 ∧ Q (.str (Txt.join a ys)) H
theorem kJoin {o e : Expr} {to te : TE} {apos pos : Pos} (ho : PE X o to) (he : PE X e te) (hs : starEach [e] X.env = [(false, eval e X.env)] := by rfl) (hbase : attributeBase o "join" X.env (eval o X.env) = eval o X.env := by rfl) (hline : (apos.endLine == pos.line) = true := by rfl) :
    PE X (.Call (.Attribute o "join" apos) [e] [] pos) (tM1 (rJoin K) to te) := by subst hK; exact pe_join ho he hs hbase hline
section
variable {o e : Expr} {es : List Expr} {to : TE} {t : TA} {name : Str} {apos cpos : Pos} {T id : String} {r : V → List V → Hp → VK → Prop}
theorem kBm0 (pa : PlainAttrs T) (slot : Slot T name id) (hty : typeOf (.builtin id) = pure (.type "method_descriptor")) (hm : MtR X id r) (ho : PE X o to)
    (hbase : attributeBase o name X.env (eval o X.env) = eval o X.env := by rfl) (hline : (apos.endLine == cpos.line) = true := by rfl) : PE X (.Call (.Attribute o name apos) [] [] cpos) (tBM0 K T r to) := by subst hK; exact pe_bm0 pa slot hty hm ho hbase hline
theorem kBm (pa : PlainAttrs T) (slot : Slot T name id) (hty : typeOf (.builtin id) = pure (.type "method_descriptor")) (hm : MtR X id r) (ho : PE X o to) (ha : PA X (e :: es) t)
    (hbase : attributeBase o name X.env (eval o X.env) = eval o X.env := by rfl)
    (hfew : ((backTo cpos (starEach (e :: es) X.env)).all (fun x => !x.1) && (backToKw cpos (keywordEach [] X.env)).all (fun x => x.1.isSome)
      && decide ((e :: es).length + ([] : List Keyword).length + (if ([] : List Keyword).isEmpty then 0 else 1) < 30)) = true := by rfl)
    (hline : (apos.endLine == cpos.line) = true := by rfl) (hs : starEach (e :: es) X.env = (false, eval e X.env) :: starEach es X.env := by rfl) (hplain : (backTo cpos (starEach es X.env)).any (·.1) = false := by rfl) :
    PE X (.Call (.Attribute o name apos) (e :: es) [] cpos) (tBM K T r to t) := by subst hK; exact pe_bm pa slot hty hm ho ha hbase hfew hline hs hplain
end
theorem kRepr {k : Nat} (hgd : X.A.guards = some []) (hr : Room k X.A) : CallR X (.builtin "repr") (rReprD K) := by subst hK; exact call_reprD hgd hr
end
/-! slots and classes as values in short -/
section
variable {X : Cx}
theorem pTy {T : String} {x : Str} {pos : Pos} (hg : Gl X x) (hm : X.mg x = none) (hv : bootBuiltins x = some (.type T)) (hn : x ≠ "__name__" := by decide) (hd : (x == ("__debug__" : Str)) = false := by decide) : PE X (.Name x pos) (tC (.ty T)) := pe_bltn hg hm hv rfl hn hd
end
end FYR

set_option Elab.async false
set_option linter.all false
set_option maxRecDepth 100000
set_option maxHeartbeats 4000000
/-! own exceptions over ArithmeticError whose __init__ is a def -/
namespace FYR
open PySem PySem.Spec PyProof.Rows L2
abbrev aeT : List Value := [.type "ArithmeticError", .type "Exception", .type "BaseException", .type "object"]
structure OexA (K : PySem.W.Frag) (C : Addr) : Prop where
  cls : ∃ nm q N bs bm sn sub ab col dd k0 k1 k2 k3 k5, K.lookup C = some (excClassObj nm q C N bs bm true sn sub ab col dd k0 k1 k2 k3 k5 "ArithmeticError.__new__") ∧ PySem.W.excTail aeT bm = true
  sa : PySem.W.findIn K (.ref C) "__setattr__" = some (some (.builtin "object.__setattr__"))
  exC : PySem.W.subIn K (.ref C) (.type "BaseException") = some true
  tyC : PySem.W.typeIn K (.ref C) = some (.type "type")
  kC : PySem.W.keepIn K (.ref C) = true
section
variable {X : Cx} {pins : List (Addr × Obj)} {σ : L2.St} {H : Hp} {s : Shared} {a C dx : Addr} {f : Str} {y : V} {u : Value} {fs : List (Str × V)} {Q : Unit → Shared → Prop} {E : Value → Shared → Prop} {A : Around}
/-- what the class's record says -/
theorem OexA.recd {K : PySem.W.Frag} (T : OexA K C) : ∃ cd, PySem.W.clsIn K C = some cd ∧ cd.hasDict = true ∧ PySem.W.excOver K C aeT = true := by
  obtain ⟨nm, q, N, bs, bm, sn, sub, ab, col, dd, k0, k1, k2, k3, k5, hC, hbm⟩ := T.cls
  have hcl : PySem.W.clsIn K C = some { name := nm, bases := bs, mro := .ref C :: bm, ns := N, qualname := q, hasDict := true, slotNames := sn, subclasses := sub, abstract := ab, collection := col, hasDel := false } := by
    unfold PySem.W.clsIn
    rw [hC] <;> rfl
  refine ⟨_, hcl, rfl, ?_⟩
  unfold PySem.W.excOver
  rw [hcl]
  show (C == C && PySem.W.excTail aeT bm) = true
  rw [hbm]
  simp
theorem taker_none {K : PySem.W.Frag} (h : PySem.W.findIn K (.ref C) f = some none) : PySem.W.takerIn K C f = some none := by
  unfold PySem.W.takerIn
  rw [h]
  rfl
/-- the store of the first field -/
theorem ast_new (T : OexA X.K C) (I : Inv X pins σ H s) (e : H a = some (exo a C none)) (hno : PySem.W.findIn X.K (.ref C) f = some none) (ry : RelV y u)
    (h : ∀ dx s', H dx = none → dx ≠ a → Inv X pins σ (upd (upd H dx (exd dx [(f, y)])) a (exo a C (some dx))) s' → Q () s') : wpAny (model X.prog X.w) A (setAttr (.ref a) f u) Q E s := by
  obtain ⟨cd, hcd, hhd, hov⟩ := T.recd
  obtain ⟨t1, ho⟩ := exo_at I.hok e
  obtain ⟨hp, g, dr, tk, os⟩ := s
  refine PySem.W.set_plain I.kIn (ox := { cls := .ref C, dict := none, data := .fields #[.ref t1, .none, .none, .none, .bool false, .none] }) (od := none) ⟨ho, rfl, rfl, trivial⟩ T.sa ?_
  refine PySem.W.osa_openX (od := none) PySem.F.store_ArithmeticError I.kIn ⟨ho, rfl, rfl, trivial⟩ hov (taker_none hno) fun b => ?_
  have hxs : a ≠ hp.objs.size := Nat.ne_of_lt (Heap.lt_size ho)
  refine wpAny_bind (wpAny_pure (wpAny_bind (PySem.W.instanceDict_exc ho (PySem.W.looks_clsIn I.kIn hcd) hhd ?_)))
  refine HandSPX.store_in_new ?_ fun h' tk' hn' hs => ?_
  · exact ⟨_, #[], _, (Heap.get?_update_ne _ _ _ _ (Ne.symm hxs)).trans (Heap.get?_push_at rfl rfl), rfl, fun e he => absurd he (by simp), fun _ => rfl⟩
  have hx1 : (hp.push { cls := .type "dict", data := .dict #[] }).get? a = some { cls := .ref C, dict := none, data := .fields #[.ref t1, .none, .none, .none, .bool false, .none] } := Heap.get?_push_of_some _ ho
  have k : ∀ b o, b ≠ a → hp.get? b = some o → h'.get? b = some o := fun b o hb hbo => (hs.2 b (Nat.ne_of_lt (Heap.lt_size hbo))).trans ((Heap.get?_update_ne _ _ _ _ hb).trans (Heap.get?_push_of_some _ hbo))
  have hx : h'.get? a = some { cls := .ref C, dict := some hp.objs.size, data := .fields #[.ref t1, .none, .none, .none, .bool false, .none] } := (hs.2 a hxs).trans (Heap.get?_update_self _ hx1 rfl)
  have hnd : H hp.objs.size = none := I.hok.fresh (Nat.le_refl _)
  have nd : ∀ {b : Addr} {o : Obj}, hp.get? b = some o → b ≠ hp.objs.size := fun {b o} z => Nat.ne_of_lt (Heap.lt_size z)
  have na : ∀ {b : Addr}, H b = none → b ≠ a := fun {b} n z => by rw [z, e] at n; cases n
  have U : Un X.fs [] H (upd (upd H hp.objs.size (exd hp.objs.size [(f, y)])) a (exo a C (some hp.objs.size))) hp h' := {
    keep := fun b o z n _ _ => k b o (na n) z
    slot := fun b o z n _ _ => ⟨o.slots, k b o (na n) z⟩
    free := fun b o z n _ => by rw [upd_ne (na n), upd_ne (nd z)]; exact n
    there := fun b o z _ => by
      by_cases hb : b = a
      · subst hb; exact ⟨_, hx⟩
      · exact ⟨o, k b o hb z⟩
    tups := fun b xs z => by rw [upd_ne (at_ne e z exo_tup), upd_ne (ne_of_none z hnd)]; exact z
    frzs := fun b o v z => by rw [upd_ne (at_ne e z exo_frz), upd_ne (ne_of_none z hnd)]; exact z
    tbls := fun b ps z => ⟨#[], by rw [upd_ne (at_ne e z exo_tbl), upd_ne (ne_of_none z hnd), z]; simp⟩ }
  refine h _ _ hnd (Ne.symm hxs) (I.un (t' := tk') U fun b o z => ?_)
  by_cases hb : b = a
  · subst hb
    rw [upd_same] at z
    cases z
    exact exo_ok hx
  rw [upd_ne hb] at z
  by_cases hd : b = hp.objs.size
  · subst hd
    rw [upd_same] at z
    cases z
    exact exd_ok hn' (relO_put (fs := []) ry fun g => True.intro)
  rw [upd_ne hd] at z
  refine (I.hok b o z).stay (fun c v hc w => k c v ?_ w) (fun c hc => ?_) fun c xs hc => ?_
  · rcases hc with hc | hc
    · rw [hc]; exact hb
    · exact at_ne e hc exo_own
  · rw [upd_ne (at_ne e hc exo_own), upd_ne (ne_of_none hc hnd)]; exact hc
  · rw [upd_ne (at_ne e hc exo_tup), upd_ne (ne_of_none hc hnd)]; exact hc
/-- the store of a further one -/
theorem ast_old (T : OexA X.K C) (I : Inv X pins σ H s) (e : H a = some (exo a C (some dx))) (ed : H dx = some (exd dx fs)) (hl : fs.length ≤ 900) (hno : PySem.W.findIn X.K (.ref C) f = some none) (ry : RelV y u)
    (h : ∀ s', Inv X pins σ (upd H dx (exd dx ((f, y) :: fs))) s' → Q () s') : wpAny (model X.prog X.w) A (setAttr (.ref a) f u) Q E s := by
  obtain ⟨cd, hcd, hhd, hov⟩ := T.recd
  obtain ⟨t1, ho⟩ := exo_at I.hok e
  obtain ⟨mA, hns, rel⟩ := exd_at I.hok ed
  have hw := within_of rel
  obtain ⟨hp, g, dr, tk, os⟩ := s
  obtain ⟨oD, _, _, hoD, _, _⟩ := hns.count hw
  refine PySem.W.set_plain I.kIn (ox := { cls := .ref C, dict := some dx, data := .fields #[.ref t1, .none, .none, .none, .bool false, .none] }) (od := some oD) ⟨ho, rfl, rfl, hoD⟩ T.sa ?_
  refine PySem.W.osa_openX (od := some oD) PySem.F.store_ArithmeticError I.kIn ⟨ho, rfl, rfl, hoD⟩ hov (taker_none hno) fun b => ?_
  have fin : ∀ h' tk', h'.Ns1 dx (fun z => if z = f then some u else mA z) → Heap.SameBut dx hp h' → Q () ⟨h', g, dr, tk', os⟩ := fun h' tk' hn hs => by
    have hd : ∃ o, h'.get? dx = some o := by
      obtain ⟨o, _, _, e', _⟩ := hn
      exact ⟨o, e'⟩
    exact h _ (I.write (t' := tk') (x := dx) (e := dx) (o := exd dx ((f, y) :: fs)) (by rw [ed]; exact True.intro) (.inl rfl) (fun b o hb ho => (hs.2 b hb).trans ho) hd (exd_ok hn (relO_put ry rel)))
  show wpAny _ _ (Builtin.ObjectAttr.storeInOwnDict (.ref a) (.ref C) (.str f tk) f u b) _ _ _
  unfold Builtin.ObjectAttr.storeInOwnDict Builtin.ObjectAttr.ownDictForStores
  refine wpAny_bind (wpAny_pure (wpAny_bind ?_))
  unfold instanceDict
  refine wpAny_bind (wpAny_loadPart ho ?_)
  dsimp only
  refine wpAny_bind ((PySem.W.looks_clsIn (h := hp) I.kIn hcd).at ?_)
  rw [hhd]
  (try dsimp only [Bool.not_true])
  (try rw [if_neg (show ¬ (false = true) from by decide)])
  refine wpAny_pure ?_
  exact PySem.OEX.store_in_old hns hw (by rw [List.length_map]; omega) fun h' tk' hn hs => fin h' tk' hn hs
end
end FYR

set_option Elab.async false
set_option linter.all false
set_option maxRecDepth 100000
set_option maxHeartbeats 4000000
namespace FYR
open PySem PySem.Spec PyProof.Rows L2
/-- B.__init__(self, ..), B an own class without an __init__ of its own -/
def tAeI (K : PySem.W.Frag) (ta : L2.TA) : TE := fun σ H Q => ta σ H fun vs H1 => ∃ (a C : Addr) (ws : List V), vs = .ref a :: ws ∧ ws.length ≤ 1000 ∧ OexA K C ∧ H1 a = some (exo a C none) ∧ Q .non H1
def tOstA (K : PySem.W.Frag) (f : Str) (to te : TE) : TS := fun D σ H => te σ H fun y H1 => to σ H1 fun x H2 => ∃ a C : Addr, x = .ref a ∧ OexA K C ∧ PySem.W.findIn K (.ref C) f = some none ∧
  ((H2 a = some (exo a C none) ∧ ∀ dx, H2 dx = none → dx ≠ a → D.nx σ (upd (upd H2 dx (exd dx [(f, y)])) a (exo a C (some dx)))) ∨
    ∃ (dx : Addr) (fs : List (Str × V)), H2 a = some (exo a C (some dx)) ∧ H2 dx = some (exd dx fs) ∧ fs.length ≤ 900 ∧ D.nx σ (upd H2 dx (exd dx ((f, y) :: fs))))
section
variable {X : Cx} {o e : Expr} {es : List Expr} {to te : TE} {ta : L2.TA} {f x : Str} {p p' p1 p2 pos : Pos} {CL : Addr} {mc : Value}
theorem ainit_ok {pins : List (Addr × Obj)} {σ : L2.St} {H : Hp} {s : Shared} {a C : Addr} {A : Around} {E : Value → Shared → Prop} {us : List Value} {Q : Value → Shared → Prop} (T : OexA X.K C) (I : L2.Inv X pins σ H s) (e : H a = some (exo a C none)) (hl : us.length ≤ sizeLine) (h : ∀ s', L2.Inv X pins σ H s' → Q .none s') :
    wpAny (model X.prog X.w) A (call (.builtin "ArithmeticError.__init__") (.ref a :: us)) Q E s := by
  obtain ⟨nm, q, N, bs, bm, sn, sub, ab, col, dd, k0, k1, k2, k3, k5, hC, hbm⟩ := T.cls
  obtain ⟨t1, ho⟩ := exo_at I.hok e
  obtain ⟨hp, g, dr, tk, os⟩ := s
  refine wpAny_call (HandSPX.init_base PySem.F.excBase_ArithmeticError (fun Y => PySem.W.excTail_contains Y bm hbm) (I.kIn _ _ hC) ho hl fun h' t2 k hx => h _ ?_)
  have J := I.write (t' := tk) (x := a) (e := a) (o := exo a C none) (by rw [e]; exact True.intro) (.inl rfl) k ⟨_, hx⟩ (exo_ok hx)
  have same : upd H a (exo a C none) = H := by
    funext b
    by_cases hb : b = a
    · rw [hb, upd_same, e]
    · rw [upd_ne hb]
  rwa [same] at J
theorem pe_aeinit {pl : Sem Bool} (hg : Gl X x) (hm : X.mg x = some (.ref CL)) (r : ClX.CRead X.K CL mc) (vV : PySem.W.findCls X.K (.ref CL) mc "__init__" = some (.val (.builtin "ArithmeticError.__init__"))) (ha : PA X (e :: es) ta)
    (hdb : (x == ("__debug__" : Str)) = false := by decide)
    (hc : eval (.Call (.Attribute (.Name x p1) "__init__" p2) (e :: es) [] pos) X.env = (do
      let ov ← eval (.Name x p1) X.env
      standAt p2.atName
      let (f, first) ← holding [ov] (getMethod ov "__init__" pl)
      callWith pos f first (backTo pos (starEach (e :: es) X.env)) (backToKw pos (keywordEach [] X.env))) := by rfl)
    (he : starEach (e :: es) X.env = (false, eval e X.env) :: starEach es X.env := by rfl) (hpl : (backTo pos (starEach es X.env)).any (·.1) = false := by rfl) :
    PE X (.Call (.Attribute (.Name x p1) "__init__" p2) (e :: es) [] pos) (tAeI X.K ta) := by
  refine ⟨fun pins s σ H Q I h => ?_⟩
  refine PySem.W.methodCall_KW (ld_glob I hg hm ?_ hdb) hc
  refine PySem.W.method_cls I.kIn r.ga (PySem.W.cls_value I.kIn r.rd vV (by decide +kernel) ?_)
  show wpAny _ _ (callWith pos (Value.builtin "ArithmeticError.__init__") [] (backTo pos (starEach (e :: es) X.env)) []) _ _ _
  refine PyProof.Rows.callWith_method1 (thn (ha.run pos pins _ σ H _ (I.tok _) h) fun us s1 ⟨vs, H1, I1, r1, a, C, ws, ev, hl, T, ea, q⟩ => ?_) he hpl
  subst ev
  cases r1 with
  | @cons _ u0 _ ur ra rw' =>
    obtain rfl : u0 = Value.ref a := ra
    have hlen : ur.length ≤ sizeLine := by
      rw [← Paired.length rw']
      exact Nat.le_trans hl (by decide)
    exact ainit_ok T I1 ea hlen fun s' J => ⟨.non, H1, J, rfl, q⟩
theorem ps_ostA (ho : PE X o to) (he : PE X e te) (hs : swapsWith e (some (.Attribute o f p')) pos.line X.env = pure false := by rfl) : PS X (.Assign [.Attribute o f p'] e pos) (tOstA X.K f to te) := by
  refine ⟨fun pins s σ H D I h => ?_⟩
  refine plainObj_wpAny_Assign_Attribute (thn (he.run pins s σ H _ I h) fun v s1 ⟨y, H1, I1, r1, q1⟩ => thn (ho.run pins s1 σ H1 _ I1 q1) fun u s2 ⟨z, H2, I2, r2, a, C, ex, T, hno, q⟩ => ?_) hs
  subst ex
  obtain rfl : u = Value.ref a := r2
  rcases q with ⟨ea, q⟩ | ⟨dx, fs, ea, ed, hl, q⟩
  · exact ast_new T I2 ea hno r1 fun dx s' n ne J => ⟨σ, _, J, q dx n ne⟩
  · exact ast_old T I2 ea ed hl hno r1 fun s' J => ⟨σ, _, J, q⟩
/-- C(e, ..), C's own __init__ keeping sp -/
theorem pmk_aex {CX : CXT} {C fI : Addr} {k : Nat} {fd : FuncData} {ps : List Str} {sp : Sp} (T : OexA X.K C) (iC : PySem.W.findIn X.K (.ref C) "__init__" = some (some (.ref fI))) (tI : PySem.W.typeIn X.K (.ref fI) = some (.type "function"))
    (F1 : FnOk X.prog X.w X.K X.mg X.base CX k fI fd ps sp) (hr : Room (k + 1) X.A) (hb : L2.Binds X.K fd ps []) (hx : Passes CX X (fun _ _ _ => False)) (hg : Gl X x) (hm : X.mg x = some (.ref C)) (ha : PA X (e :: es) ta)
    (hdb : (x == ("__debug__" : Str)) = false := by decide) (he : starEach (e :: es) X.env = (false, eval e X.env) :: starEach es X.env := by rfl) (hpl : (backTo pos (starEach es X.env)).any (·.1) = false := by rfl) :
    PMk X (.Call (.Name x p) (e :: es) [] pos) (tMkO C sp [] ta) := by
  intro pins s σ H Q I h
  obtain ⟨nm, q, N, bs, bm, sn, sub, ab, col, dd, k0, k1, k2, k3, k5, hC, hbm⟩ := T.cls
  refine wpAny_Call_Name_kw (ld_glob I hg hm ?_ hdb)
  refine PySem.W.callWith_K (h₀ := X.base) I.ok.mod.kin T.kC (thn (ha.run pos pins s σ H _ I h) fun us s1 ⟨vs, H1, I1, r1, hz, q1⟩ => ⟨I1.kIn, ?_⟩) he hpl
  show wpAny _ _ (call (.ref C) us) _ _ _
  obtain ⟨hp, g, dr, tk, os⟩ := s1
  have hsz : hp.objs.size ≤ hp.objs.size + 1 := Nat.le_succ _
  have hn : H1 (hp.objs.size + 1) = none := I1.hok.fresh hsz
  have hq := q1 _ hn
  rw [List.append_nil] at hq
  have kk : ∀ b o, hp.get? b = some o → ((hp.push (PySem.W.kdv_tup us)).push (HandSPX.excO C hp.objs.size)).get? b = some o := fun b o e => Heap.get?_push_of_some _ (Heap.get?_push_of_some _ e)
  have hget : ((hp.push (PySem.W.kdv_tup us)).push (HandSPX.excO C hp.objs.size)).get? (hp.objs.size + 1) = some (HandSPX.excO C hp.objs.size) := by heap_get
  have I2 := I1.laid (t' := tk) (a := hp.objs.size + 1) (o := exo (hp.objs.size + 1) C none) kk hsz (exo_ok hget)
  have r2 : Vals (V.ref (hp.objs.size + 1) :: vs) (Value.ref (hp.objs.size + 1) :: us) := .cons rfl r1
  have hl : (Value.ref (hp.objs.size + 1) :: us).length = ps.length := (r2.length.symm).trans (F1.len _ _ _ _ hq)
  have hus : us.length ≤ sizeLine := by
    rw [← Paired.length r1]
    exact Nat.le_trans hz (by decide)
  refine wpAny_call (HandSPX.call_own PySem.F.excBase_ArithmeticError (fun Y => PySem.W.excTail_contains Y bm hbm) (I1.kIn _ _ hC) (PySem.W.looks_findIn I1.kIn iC) (fun self => PySem.W.bind_fn I1.kIn self tI) hus ?_)
  have bnd := hb _ (Value.ref (hp.objs.size + 1) :: us) I2.kIn (by rw [List.append_nil]; exact hl)
  rw [List.append_nil] at bnd
  refine codeAny_mono (F1.run _ X.stack _ _ ⟨Value.ref (hp.objs.size + 1) :: us, []⟩ (Value.ref (hp.objs.size + 1) :: us) _ _ (fun _ _ _ => False) (hr.make C us []) (I2.env0.make C us []) bnd r2 hq) fun r s' hq' => ?_
  cases r with
  | error er => exact hx pins σ _ _ er s' I2 hq'
  | ok fl =>
    cases fl with
    | ret u =>
      obtain ⟨v, H2, os2, bare2, un2, hok2, rv, ev, d, fs, ea, ed, hd1, q2⟩ := hq'
      subst ev
      obtain ⟨h2, g2, d2, t2, os'⟩ := s'
      exact ⟨rv, mk_end (raises_own T.exC T.tyC) I1 hsz kk un2 hok2 os2 bare2 ea ed hd1 q2⟩
    | next => exact False.elim hq'
    | brk => exact False.elim hq'
    | cont => exact False.elim hq'
end
end FYR

set_option Elab.async false
set_option linter.all false
set_option maxRecDepth 100000
set_option maxHeartbeats 4000000
namespace FY
open PySem L2 FYR
def top (i : Nat) : Stmt := PySem.Challenge.pw_flowyard_k24_terms_put_in_and_plain.main.body.getD i (.Pass ⟨0, 0, 0, 0⟩)
theorem bt_len : bootBuiltins "len" = some (.builtin "len") := by decide +kernel
theorem bt_isinstance : bootBuiltins "isinstance" = some (.builtin "isinstance") := by decide +kernel
theorem bt_all : bootBuiltins "all" = some (.builtin "all") := by decide +kernel
theorem bt_sum : bootBuiltins "sum" = some (.builtin "sum") := by decide +kernel
theorem bt_abs : bootBuiltins "abs" = some (.builtin "abs") := by decide +kernel
theorem bt_max : bootBuiltins "max" = some (.builtin "max") := by decide +kernel
theorem bt_min : bootBuiltins "min" = some (.builtin "min") := by decide +kernel
theorem bt_divmod : bootBuiltins "divmod" = some (.builtin "divmod") := by decide +kernel
theorem bt_repr : bootBuiltins "repr" = some (.builtin "repr") := by decide +kernel
theorem bt_int : bootBuiltins "int" = some (.type "int") := by decide +kernel
theorem bt_str : bootBuiltins "str" = some (.type "str") := by decide +kernel
theorem bt_tuple : bootBuiltins "tuple" = some (.type "tuple") := by decide +kernel
theorem bt_list : bootBuiltins "list" = some (.type "list") := by decide +kernel
structure Txt (K : PySem.W.Frag) (mg : Str → Option Value) (aS a1 a2 : Addr) : Prop where
  b_len : mg "len" = none
  b_isinstance : mg "isinstance" = none
  b_all : mg "all" = none
  b_sum : mg "sum" = none
  b_abs : mg "abs" = none
  b_max : mg "max" = none
  b_min : mg "min" = none
  b_divmod : mg "divmod" = none
  b_repr : mg "repr" = none
  b_int : mg "int" = none
  b_str : mg "str" = none
  b_tuple : mg "tuple" = none
  b_list : mg "list" = none
  b_zip : mg "zip" = none
  b_range : mg "range" = none
  g_SIGNS : ∃ u, mg "SIGNS" = some u ∧ RelV (.ref aS) u
  k_SIGNS : ∀ H, SqT K H aS [.str "0", .str "1"]
  g_OF_ONE : ∃ u, mg "OF_ONE" = some u ∧ RelV (.ref a1) u
  k_OF_ONE : ∀ H, SqT K H a1 [.str "not", .str "twice", .str "half", .str "change", .str "count"]
  g_OF_TWO : ∃ u, mg "OF_TWO" = some u ∧ RelV (.ref a2) u
  k_OF_TWO : ∀ H, SqT K H a2 [.str "keep", .str "then"]
  g_IN : ∃ u, mg "IN" = some u ∧ RelV (.str "in") u
  g_LATE : ∃ u, mg "LATE" = some u ∧ RelV (.str "late") u
  g_BY : ∃ u, mg "BY" = some u ∧ RelV (.str "by") u
  g_KEEP : ∃ u, mg "KEEP" = some u ∧ RelV (.str "keep") u
  g_THEN : ∃ u, mg "THEN" = some u ∧ RelV (.str "then") u
  g_MOST_NODES : ∃ u, mg "MOST_NODES" = some u ∧ RelV (.int 9) u
  g_MOST_SIGNS : ∃ u, mg "MOST_SIGNS" = some u ∧ RelV (.int 8000) u
  g_MOST_STREAM : ∃ u, mg "MOST_STREAM" = some u ∧ RelV (.int 1000) u
/-! promises -/
def spIsSign : Sp := fun vs H Q _ => ∃ b, vs = [.str (sgn b)] ∧ Q (.bl true) H
def spIsText : Sp := fun vs H Q _ => ∃ bs, vs = [.str (tx bs)] ∧ bs.length ≤ 100000 ∧ ∀ H', Same H H' → Q (.bl true) H'
def spIsTextOf : Sp := fun vs H Q _ => ∃ (bs : List Bool) (n : Int), vs = [.str (tx bs), .int n] ∧ bs.length ≤ 100000 ∧ ∀ H', Same H H' → Q (.bl (decide ((bs.length : Int) ≤ n))) H'
def spWantStream : Sp := fun vs H Q _ => ∃ bs, vs = [.str (tx bs)] ∧ bs.length ≤ 1000 ∧ ∀ H', Same H H' → Q .non H'
def spPartsOf : Sp := fun vs H Q _ => ∃ v t, vs = [v] ∧ TA H v t ∧ t.dep ≤ 60 ∧ ∀ H' p ws, Same H H' → H' p = some (.tup ws) → Paired (TA H') ws t.parts → Q (.ref p) H'
def spHasShape : Sp := fun vs H Q _ => ∃ v t, vs = [v] ∧ TA H v t ∧ t.isIn = false ∧ ∀ H', Same H H' → Q (.bl true) H'
def spIsTerm : Sp := fun vs H Q _ => ∃ v t, vs = [v] ∧ TA H v t ∧ t.nodes ≤ 40 ∧ ∀ H', Same H H' → Q (.bl (decide (t.nodes ≤ 9))) H'
def spWantTerm : Sp := fun vs H Q _ => ∃ v t, vs = [v] ∧ TA H v t ∧ t.nodes ≤ 9 ∧ ∀ H', Same H H' → Q .non H'
theorem ty_str {K : PySem.W.Frag} {H : Hp} (x : Str) : TyX K H (.str x) (.type "str") := .base (.str x)
theorem ty_tup {K : PySem.W.Frag} {H : Hp} {a : Addr} {xs : List V} (h : H a = some (.tup xs)) : TyX K H (.ref a) (.type "tuple") := .base (.tup h)
theorem kss {K : PySem.W.Frag} : PySem.W.kitOne K (.type "str") (.type "str") = some true := kit_ty (by decide +kernel)
theorem kts {K : PySem.W.Frag} : PySem.W.kitOne K (.type "tuple") (.type "str") = some false := kit_ty (by decide +kernel)
theorem ktt {K : PySem.W.Frag} : PySem.W.kitOne K (.type "tuple") (.type "tuple") = some true := kit_ty (by decide +kernel)
theorem kst {K : PySem.W.Frag} : PySem.W.kitOne K (.type "str") (.type "tuple") = some false := kit_ty (by decide +kernel)
theorem tyI {σ : St} {H : Hp} {A B : Hp → Prop} (h : A H) : tYes σ H (fun b H3 => if b = true then A H3 else B H3) := by
  show if true = true then A H else B H
  rw [if_pos rfl]
  exact h
theorem o1w (w : W1) : (if false = true then !inV (.str w.s) [.str "not", .str "twice", .str "half", .str "change", .str "count"] else inV (.str w.s) [.str "not", .str "twice", .str "half", .str "change", .str "count"]) = true := by cases w <;> decide +kernel
theorem o1l : (if false = true then !inV (.str "late") [.str "not", .str "twice", .str "half", .str "change", .str "count"] else inV (.str "late") [.str "not", .str "twice", .str "half", .str "change", .str "count"]) = false := by decide +kernel
theorem o1b : (if false = true then !inV (.str "by") [.str "not", .str "twice", .str "half", .str "change", .str "count"] else inV (.str "by") [.str "not", .str "twice", .str "half", .str "change", .str "count"]) = false := by decide +kernel
theorem o1k : (if false = true then !inV (.str "keep") [.str "not", .str "twice", .str "half", .str "change", .str "count"] else inV (.str "keep") [.str "not", .str "twice", .str "half", .str "change", .str "count"]) = false := by decide +kernel
theorem o1t : (if false = true then !inV (.str "then") [.str "not", .str "twice", .str "half", .str "change", .str "count"] else inV (.str "then") [.str "not", .str "twice", .str "half", .str "change", .str "count"]) = false := by decide +kernel
theorem o2l : (if false = true then !inV (.str "late") [.str "keep", .str "then"] else inV (.str "late") [.str "keep", .str "then"]) = false := by decide +kernel
theorem o2b : (if false = true then !inV (.str "by") [.str "keep", .str "then"] else inV (.str "by") [.str "keep", .str "then"]) = false := by decide +kernel
theorem o2k : (if false = true then !inV (.str "keep") [.str "keep", .str "then"] else inV (.str "keep") [.str "keep", .str "then"]) = true := by decide +kernel
theorem o2t : (if false = true then !inV (.str "then") [.str "keep", .str "then"] else inV (.str "then") [.str "keep", .str "then"]) = true := by decide +kernel
theorem iteTd {c : Bool} {A B : Prop} (e : c = true) (h : A) : if c = true then A else B := by
  subst e
  exact iteT h
theorem iteFd {c : Bool} {A B : Prop} (e : c = false) (h : B) : if c = true then A else B := by
  subst e
  exact iteF h
theorem nw1 {p : Prop} : ¬ ((1 : Nat) = 0 ∧ p) := fun z => absurd z.1 (by decide)
theorem nw2 {p : Prop} : ¬ ((2 : Nat) = 0 ∧ p) := fun z => absurd z.1 (by decide)
theorem in_signs (b : Bool) : inV (.str (sgn b)) [.str "0", .str "1"] = true := by cases b <;> decide +kernel
section
variable {P : Program} {w : World} {K : PySem.W.Frag} {mg : Str → Option Value} {base : Heap} {aS a1 a2 : Addr} {f : Addr} {fd : FuncData}
abbrev s_is_sign : Stmt := top 2
abbrev N_is_sign : List Str := ["value"]
theorem sc_is_sign : FnScope N_is_sign ["value"] (defScope s_is_sign) := ⟨rfl, rfl, rfl, by decide +kernel, rfl, by decide +kernel, by decide +kernel⟩
theorem ok_is_sign (F : Fun K "is_sign" "is_sign" s_is_sign f fd) (T : Txt K mg aS a1 a2) : FnOk P w K mg base CX0 1 f fd ["value"] spIsSign := by
  refine F.ok sc_is_sign (fun vs H Q E h => ?_) (fun cdv A outer s H vs Q E hr h => ?_)
  · obtain ⟨b, rfl, _⟩ := h
    rfl
  obtain ⟨b, rfl, q⟩ := h
  refine ⟨_, (pss_one (ps_ret (pe_and (pe_callB (kIsi K rfl) rfl T.b_isinstance bt_isinstance (pa_cons (pv 0) (pa_cons (pTy rfl T.b_str bt_str) pa_nil))) (pe_one (pe_cmpR (kIn K rfl) (pv 0) (C8.pe_gc rfl T.g_SIGNS) rfl))))), ?_⟩
  refine ⟨_, rfl, _, _, _, _, _, rfl, .ty _, ty_str _, kss, _, rfl, iteT ?_⟩
  refine ⟨_, rfl, _, _, rfl, .inr (T.k_SIGNS _), rfl, rfl, ?_⟩
  rw [if_neg Bool.false_ne_true, in_signs]
  exact q
abbrev s_is_text : Stmt := top 3
abbrev N_is_text : List Str := ["value", "sign"]
theorem sc_is_text : FnScope N_is_text ["value"] (defScope s_is_text) := ⟨rfl, rfl, rfl, by decide +kernel, rfl, by decide +kernel, by decide +kernel⟩
theorem ok_is_text (F : Fun K "is_text" "is_text" s_is_text f fd) (T : Txt K mg aS a1 a2) : FnOk P w K mg base CX0 1 f fd ["value"] spIsText := by
  refine F.ok sc_is_text (fun vs H Q E h => ?_) (fun cdv A outer s H vs Q E hr h => ?_)
  · obtain ⟨b, rfl, _⟩ := h
    rfl
  obtain ⟨bs, rfl, hl, q⟩ := h
  refine ⟨_, (pss_one (ps_ret (pe_and (pe_callB (kIsi K rfl) rfl T.b_isinstance bt_isinstance (pa_cons (pv 0) (pa_cons (pTy rfl T.b_str bt_str) pa_nil))) (pe_one (pe_callB (kAll K rfl rfl) rfl T.b_all bt_all (pa_cons (pe_lc (own := [("sign", 1)]) rfl sc_is_text.nd (pi_str (pv 0)) (blkOk_by (N := N_is_text) (sc := defScope s_is_text) (by decide +kernel)) (fun _ _ _ _ _ => (pg_name (i := 1) sc_is_text.nd rfl (Or.inl rfl))) (fun _ _ _ _ _ => pts_nil) (fun _ _ _ _ _ => (pe_cmpR (kIn K rfl) (pv 1) (C8.pe_gc rfl T.g_SIGNS) rfl))) pa_nil)))))), ?_⟩
  refine ⟨_, rfl, _, _, _, _, _, rfl, .ty _, ty_str _, kss, _, rfl, iteT ?_⟩
  refine ⟨_, rfl, _, rfl, fun D hD => lc_it walk_str (fun i H' => Same H H' ∧ H' D = some (.lst (List.replicate i (.bl true)))) ⟨same_new hD _, upd_same⟩ (fun _ _ _ _ => trivial) ?_ ?_⟩
  · rintro i x H1 H2 hi ⟨sm, hd⟩ ⟨rfl, c, hc, rfl⟩
    rw [tx_get] at hc
    obtain ⟨b, hb, rfl⟩ := Option.map_eq_some_iff.mp hc
    refine ⟨rfl, tyI ?_⟩
    refine ⟨_, rfl, _, _, rfl, .inr (T.k_SIGNS _), rfl, rfl, ?_⟩
    rw [if_neg Bool.false_ne_true]
    rw [show inV (V.str { cps := #[cd b] }) [V.str (Str.ofString "0"), V.str (Str.ofString "1")] = true from in_signs b]
    have hi' : i < bs.length := by rw [tx_size] at hi; exact hi
    refine ⟨_, hd, ?_, fun b o e => ?_, ?_⟩
    · rw [List.length_replicate]
      exact Nat.lt_of_lt_of_le hi' (small5 hl)
    · rw [upd_ne (ne_of_none e hD)]
      exact sm _ _ e
    · rw [upd_same, List.replicate_succ']
  · rintro H1 ⟨sm, hd⟩
    refine ⟨_, List.replicate (tx bs).cps.size true, rfl, SqL.of (by rw [hd, List.map_replicate]), ?_⟩
    have e : (List.replicate (tx bs).cps.size true).all id = true := by simp
    rw [e]
    exact q _ sm
abbrev s_is_text_of : Stmt := top 4
abbrev N_is_text_of : List Str := ["value", "most"]
theorem sc_is_text_of : FnScope N_is_text_of ["value", "most"] (defScope s_is_text_of) := ⟨rfl, rfl, rfl, by decide +kernel, rfl, by decide +kernel, by decide +kernel⟩
theorem ok_is_text_of (F : Fun K "is_text_of" "is_text_of" s_is_text_of f fd) (T : Txt K mg aS a1 a2) (c_is_text : C8.Cal P w K mg base 1 "is_text" spIsText []) : FnOk P w K mg base CX0 2 f fd ["value", "most"] spIsTextOf := by
  refine F.ok sc_is_text_of (fun vs H Q E h => ?_) (fun cdv A outer s H vs Q E hr h => ?_)
  · obtain ⟨b, n, rfl, _⟩ := h
    rfl
  obtain ⟨bs, n, rfl, hl, q⟩ := h
  refine ⟨_, (pss_one (ps_ret (pe_and (C8.pe_c c_is_text hr (by decide) rfl (pa_cons (pv 0) pa_nil)) (pe_one (pe_cmpR op_le (pe_callB call_len_str rfl T.b_len bt_len (pa_cons (pv 0) pa_nil)) (pv 1) (nomark _)))))), ?_⟩
  refine ⟨_, rfl, bs, rfl, hl, fun H1 sm => ⟨_, rfl, iteT ?_⟩⟩
  refine ⟨_, rfl, _, rfl, by rw [tx_len]; exact small5 hl, _, rfl, _, _, rfl, rfl, ?_⟩
  rw [tx_len]
  exact q _ sm
abbrev s_want_stream : Stmt := top 13
abbrev N_want_stream : List Str := ["stream"]
theorem sc_want_stream : FnScope N_want_stream ["stream"] (defScope s_want_stream) := ⟨rfl, rfl, rfl, by decide +kernel, rfl, by decide +kernel, by decide +kernel⟩
theorem ok_want_stream (F : Fun K "want_stream" "want_stream" s_want_stream f fd) (T : Txt K mg aS a1 a2) (c_is_text_of : C8.Cal P w K mg base 2 "is_text_of" spIsTextOf []) : FnOk P w K mg base CX0 3 f fd ["stream"] spWantStream := by
  refine F.ok sc_want_stream (fun vs H Q E h => ?_) (fun cdv A outer s H vs Q E hr h => ?_)
  · obtain ⟨b, rfl, _⟩ := h
    rfl
  obtain ⟨bs, rfl, hl, q⟩ := h
  refine ⟨_, (pss_one (ps_if (pt_not (pt_val (C8.pe_c c_is_text_of hr (by decide) rfl (pa_cons (pv 0) (pa_cons (C8.pe_gc rfl T.g_MOST_STREAM) pa_nil)))))
        (pss_one ps_never)
        pss_nil)), ?_⟩
  refine ⟨_, rfl, bs, _, rfl, by omega, fun H1 sm => ⟨_, rfl, ?_⟩⟩
  rw [decide_eq_true (by omega)]
  exact iteF (q _ sm)
abbrev s_parts_of : Stmt := top 24
abbrev N_parts_of : List Str := ["term"]
theorem sc_parts_of : FnScope N_parts_of ["term"] (defScope s_parts_of) := ⟨rfl, rfl, rfl, by decide +kernel, rfl, by decide +kernel, by decide +kernel⟩
theorem ok_parts_of (F : Fun K "parts_of" "parts_of" s_parts_of f fd) (T : Txt K mg aS a1 a2) : FnOk P w K mg base CX0 1 f fd ["term"] spPartsOf := by
  refine F.ok sc_parts_of (fun vs H Q E h => ?_) (fun cdv A outer s H vs Q E hr h => ?_)
  · obtain ⟨b, t, rfl, _⟩ := h
    rfl
  obtain ⟨v, t, rfl, ta, hn, q⟩ := h
  refine ⟨_, (pss_cons (ps_if (pt_cmpR (kEqD K rfl hr.units) (pv 0) (C8.pe_gc rfl T.g_IN) (nomark _))
        (pss_one (ps_ret (pe_tup pa_nil)))
        pss_nil)
        (pss_cons (ps_if (PW.pt (pw_or (pt_cmpR (kIn K rfl) (pe_ix (kIxT K rfl) (pv 0) pe_int (fun _ _ => rfl)) (C8.pe_gc rfl T.g_OF_ONE) rfl) (pw_or1 (pt_cmpR (kIn K rfl) (pe_ix (kIxT K rfl) (pv 0) pe_int (fun _ _ => rfl)) (C8.pe_gc rfl T.g_OF_TWO) rfl))))
        (pss_one (ps_ret (pe_slice (kSlT K rfl) (pv 0) (po_some pe_int) po_none)))
        pss_nil)
        (pss_one (ps_ret (pe_slice (kSlT K rfl) (pv 0) (po_some pe_int) po_none))))), ?_⟩
  refine ⟨_, rfl, _, _, ta.dp, .str _, shp_dep hn, shp_in, _, rfl, ?_⟩
  rw [eqv_in]
  cases t with
  | inn => exact iteT ⟨by decide, fun p hp => q _ _ _ (same_new hp _) upd_same .nil⟩
  | one w t =>
    obtain ⟨a, x, rfl, h, r⟩ := ta
    refine iteF ?_
    refine ⟨_, rfl, _, _, _, _, rfl, rfl, SqT.of h, rfl, _, _, rfl, .inr (T.k_OF_ONE _), rfl, rfl, _, rfl, ?_⟩
    rw [o1w]
    refine iteT (iteT ?_)
    exact ⟨_, rfl, _, rfl, _, _, rfl, SqT.of h, nw1, fun p hp => q _ _ _ (same_new hp _) upd_same (.cons (r.keep (Tups.of (same_new hp _))) .nil)⟩
  | late b t =>
    obtain ⟨a, x, rfl, h, r⟩ := ta
    refine iteF ⟨_, rfl, _, _, _, _, rfl, rfl, SqT.of h, rfl, _, _, rfl, .inr (T.k_OF_ONE _), rfl, rfl, _, rfl, ?_⟩
    rw [o1l]
    refine iteF ⟨_, rfl, _, _, _, _, rfl, rfl, SqT.of h, rfl, _, _, rfl, .inr (T.k_OF_TWO _), rfl, rfl, _, rfl, ?_⟩
    rw [o2l]
    refine iteF ?_
    exact ⟨_, rfl, _, rfl, _, _, rfl, SqT.of h, nw2, fun p hp => q _ _ _ (same_new hp _) upd_same (.cons (r.keep (Tups.of (same_new hp _))) .nil)⟩
  | byy b1 b2 b3 b4 t u =>
    obtain ⟨a, x, y, rfl, h, r, r'⟩ := ta
    refine iteF ⟨_, rfl, _, _, _, _, rfl, rfl, SqT.of h, rfl, _, _, rfl, .inr (T.k_OF_ONE _), rfl, rfl, _, rfl, ?_⟩
    rw [o1b]
    refine iteF ⟨_, rfl, _, _, _, _, rfl, rfl, SqT.of h, rfl, _, _, rfl, .inr (T.k_OF_TWO _), rfl, rfl, _, rfl, ?_⟩
    rw [o2b]
    refine iteF ?_
    exact ⟨_, rfl, _, rfl, _, _, rfl, SqT.of h, nw2, fun p hp => q _ _ _ (same_new hp _) upd_same (.cons (r.keep (Tups.of (same_new hp _))) (.cons (r'.keep (Tups.of (same_new hp _))) .nil))⟩
  | keep t u =>
    obtain ⟨a, x, y, rfl, h, r, r'⟩ := ta
    refine iteF ⟨_, rfl, _, _, _, _, rfl, rfl, SqT.of h, rfl, _, _, rfl, .inr (T.k_OF_ONE _), rfl, rfl, _, rfl, ?_⟩
    rw [o1k]
    refine iteF ⟨_, rfl, _, _, _, _, rfl, rfl, SqT.of h, rfl, _, _, rfl, .inr (T.k_OF_TWO _), rfl, rfl, _, rfl, ?_⟩
    rw [o2k]
    refine iteT ?_
    exact ⟨_, rfl, _, rfl, _, _, rfl, SqT.of h, nw1, fun p hp => q _ _ _ (same_new hp _) upd_same (.cons (r.keep (Tups.of (same_new hp _))) (.cons (r'.keep (Tups.of (same_new hp _))) .nil))⟩
  | thn t u =>
    obtain ⟨a, x, y, rfl, h, r, r'⟩ := ta
    refine iteF ⟨_, rfl, _, _, _, _, rfl, rfl, SqT.of h, rfl, _, _, rfl, .inr (T.k_OF_ONE _), rfl, rfl, _, rfl, ?_⟩
    rw [o1t]
    refine iteF ⟨_, rfl, _, _, _, _, rfl, rfl, SqT.of h, rfl, _, _, rfl, .inr (T.k_OF_TWO _), rfl, rfl, _, rfl, ?_⟩
    rw [o2t]
    refine iteT ?_
    exact ⟨_, rfl, _, rfl, _, _, rfl, SqT.of h, nw1, fun p hp => q _ _ _ (same_new hp _) upd_same (.cons (r.keep (Tups.of (same_new hp _))) (.cons (r'.keep (Tups.of (same_new hp _))) .nil))⟩
abbrev s_has_shape : Stmt := top 26
abbrev N_has_shape : List Str := ["value"]
theorem sc_has_shape : FnScope N_has_shape ["value"] (defScope s_has_shape) := ⟨rfl, rfl, rfl, by decide +kernel, rfl, by decide +kernel, by decide +kernel⟩
theorem ok_has_shape (F : Fun K "has_shape" "has_shape" s_has_shape f fd) (T : Txt K mg aS a1 a2) (c_is_sign : C8.Cal P w K mg base 1 "is_sign" spIsSign []) (c_is_text : C8.Cal P w K mg base 1 "is_text" spIsText []) : FnOk P w K mg base CX0 2 f fd ["value"] spHasShape := by
  refine F.ok sc_has_shape (fun vs H Q E h => ?_) (fun cdv A outer s H vs Q E hr h => ?_)
  · obtain ⟨b, t, rfl, _⟩ := h
    rfl
  obtain ⟨v, t, rfl, ta, hn, q⟩ := h
  refine ⟨_, (pss_cons (ps_if (PW.pt (pw_or (pt_not (pt_val (pe_callB (kIsi K rfl) rfl T.b_isinstance bt_isinstance (pa_cons (pv 0) (pa_cons (pTy rfl T.b_tuple bt_tuple) pa_nil))))) (pw_or (pt_cmpR op_eq (pe_callB (kLen K rfl) rfl T.b_len bt_len (pa_cons (pv 0) pa_nil)) pe_int (nomark _)) (pw_or1 (pt_not (pt_val (pe_callB (kIsi K rfl) rfl T.b_isinstance bt_isinstance (pa_cons (pe_ix (kIxT K rfl) (pv 0) pe_int (fun _ _ => rfl)) (pa_cons (pTy rfl T.b_str bt_str) pa_nil)))))))))
        (pss_one (ps_ret pe_bl))
        pss_nil)
        (pss_cons (ps_if (pt_cmpR (kIn K rfl) (pe_ix (kIxT K rfl) (pv 0) pe_int (fun _ _ => rfl)) (C8.pe_gc rfl T.g_OF_ONE) rfl)
        (pss_one (ps_ret (pe_cmpR op_eq (pe_callB (kLen K rfl) rfl T.b_len bt_len (pa_cons (pv 0) pa_nil)) pe_int (nomark _))))
        pss_nil)
        (pss_cons (ps_if (pt_cmpR (kIn K rfl) (pe_ix (kIxT K rfl) (pv 0) pe_int (fun _ _ => rfl)) (C8.pe_gc rfl T.g_OF_TWO) rfl)
        (pss_one (ps_ret (pe_cmpR op_eq (pe_callB (kLen K rfl) rfl T.b_len bt_len (pa_cons (pv 0) pa_nil)) pe_int (nomark _))))
        pss_nil)
        (pss_cons (ps_if (pt_cmpR op_eq (pe_ix (kIxT K rfl) (pv 0) pe_int (fun _ _ => rfl)) (C8.pe_gc rfl T.g_LATE) (nomark _))
        (pss_one (ps_ret (pe_and (pe_cmpR op_eq (pe_callB (kLen K rfl) rfl T.b_len bt_len (pa_cons (pv 0) pa_nil)) pe_int (nomark _)) (pe_one (C8.pe_c c_is_sign hr (by decide) rfl (pa_cons (pe_ix (kIxT K rfl) (pv 0) pe_int (fun _ _ => rfl)) pa_nil))))))
        pss_nil)
        (pss_one (ps_ret (pe_and (pe_cmpR op_eq (pe_ix (kIxT K rfl) (pv 0) pe_int (fun _ _ => rfl)) (C8.pe_gc rfl T.g_BY) (nomark _)) (pe_and (pe_cmpR op_eq (pe_callB (kLen K rfl) rfl T.b_len bt_len (pa_cons (pv 0) pa_nil)) pe_int (nomark _)) (pe_and (C8.pe_c c_is_text hr (by decide) rfl (pa_cons (pe_ix (kIxT K rfl) (pv 0) pe_int (fun _ _ => rfl)) pa_nil)) (pe_one (pe_cmpR op_eq (pe_callB call_len_str rfl T.b_len bt_len (pa_cons (pe_ix (kIxT K rfl) (pv 0) pe_int (fun _ _ => rfl)) pa_nil)) pe_int (nomark _)))))))))))), ?_⟩
  cases t with
  | inn => cases hn
  | one w t =>
    obtain ⟨a, x, rfl, h, r⟩ := ta
    refine ⟨_, rfl, _, _, _, _, _, rfl, .ty _, ty_tup h, ktt, _, rfl, iteF ⟨_, rfl, _, _, rfl, .inr (SqT.of h), rfl, _, rfl, iteFd (by rw [dec_int]; rfl) ⟨_, rfl, _, _, _, _, rfl, rfl, SqT.of h, rfl, _, _, _, _, _, rfl, .ty _, ty_str _, kss, _, rfl, iteF ?_⟩⟩⟩
    refine ⟨_, rfl, _, _, _, _, rfl, rfl, SqT.of h, rfl, _, _, rfl, .inr (T.k_OF_ONE _), rfl, rfl, _, rfl, iteTd (o1w _) ?_⟩
    exact ⟨_, rfl, _, _, rfl, .inr (SqT.of h), rfl, q _ (Same.refl _)⟩
  | keep t u =>
    obtain ⟨a, x, y, rfl, h, r⟩ := ta
    refine ⟨_, rfl, _, _, _, _, _, rfl, .ty _, ty_tup h, ktt, _, rfl, iteF ⟨_, rfl, _, _, rfl, .inr (SqT.of h), rfl, _, rfl, iteFd (by rw [dec_int]; rfl) ⟨_, rfl, _, _, _, _, rfl, rfl, SqT.of h, rfl, _, _, _, _, _, rfl, .ty _, ty_str _, kss, _, rfl, iteF ?_⟩⟩⟩
    refine ⟨_, rfl, _, _, _, _, rfl, rfl, SqT.of h, rfl, _, _, rfl, .inr (T.k_OF_ONE _), rfl, rfl, _, rfl, iteFd o1k ?_⟩
    refine ⟨_, rfl, _, _, _, _, rfl, rfl, SqT.of h, rfl, _, _, rfl, .inr (T.k_OF_TWO _), rfl, rfl, _, rfl, iteTd o2k ?_⟩
    exact ⟨_, rfl, _, _, rfl, .inr (SqT.of h), rfl, q _ (Same.refl _)⟩
  | thn t u =>
    obtain ⟨a, x, y, rfl, h, r⟩ := ta
    refine ⟨_, rfl, _, _, _, _, _, rfl, .ty _, ty_tup h, ktt, _, rfl, iteF ⟨_, rfl, _, _, rfl, .inr (SqT.of h), rfl, _, rfl, iteFd (by rw [dec_int]; rfl) ⟨_, rfl, _, _, _, _, rfl, rfl, SqT.of h, rfl, _, _, _, _, _, rfl, .ty _, ty_str _, kss, _, rfl, iteF ?_⟩⟩⟩
    refine ⟨_, rfl, _, _, _, _, rfl, rfl, SqT.of h, rfl, _, _, rfl, .inr (T.k_OF_ONE _), rfl, rfl, _, rfl, iteFd o1t ?_⟩
    refine ⟨_, rfl, _, _, _, _, rfl, rfl, SqT.of h, rfl, _, _, rfl, .inr (T.k_OF_TWO _), rfl, rfl, _, rfl, iteTd o2t ?_⟩
    exact ⟨_, rfl, _, _, rfl, .inr (SqT.of h), rfl, q _ (Same.refl _)⟩
  | late b t =>
    obtain ⟨a, x, rfl, h, r⟩ := ta
    refine ⟨_, rfl, _, _, _, _, _, rfl, .ty _, ty_tup h, ktt, _, rfl, iteF ⟨_, rfl, _, _, rfl, .inr (SqT.of h), rfl, _, rfl, iteFd (by rw [dec_int]; rfl) ⟨_, rfl, _, _, _, _, rfl, rfl, SqT.of h, rfl, _, _, _, _, _, rfl, .ty _, ty_str _, kss, _, rfl, iteF ?_⟩⟩⟩
    refine ⟨_, rfl, _, _, _, _, rfl, rfl, SqT.of h, rfl, _, _, rfl, .inr (T.k_OF_ONE _), rfl, rfl, _, rfl, iteFd o1l ?_⟩
    refine ⟨_, rfl, _, _, _, _, rfl, rfl, SqT.of h, rfl, _, _, rfl, .inr (T.k_OF_TWO _), rfl, rfl, _, rfl, iteFd o2l ?_⟩
    refine ⟨_, rfl, _, _, _, _, rfl, rfl, SqT.of h, rfl, rfl, _, rfl, iteTd (by decide +kernel) ?_⟩
    refine ⟨_, rfl, _, _, rfl, .inr (SqT.of h), rfl, _, rfl, iteTd (by rw [dec_int]; rfl) ?_⟩
    exact ⟨_, rfl, _, _, _, _, rfl, rfl, SqT.of h, rfl, _, rfl, q _ (Same.refl _)⟩
  | byy b1 b2 b3 b4 t u =>
    obtain ⟨a, x, y, rfl, h, r⟩ := ta
    refine ⟨_, rfl, _, _, _, _, _, rfl, .ty _, ty_tup h, ktt, _, rfl, iteF ⟨_, rfl, _, _, rfl, .inr (SqT.of h), rfl, _, rfl, iteFd (by rw [dec_int]; rfl) ⟨_, rfl, _, _, _, _, rfl, rfl, SqT.of h, rfl, _, _, _, _, _, rfl, .ty _, ty_str _, kss, _, rfl, iteF ?_⟩⟩⟩
    refine ⟨_, rfl, _, _, _, _, rfl, rfl, SqT.of h, rfl, _, _, rfl, .inr (T.k_OF_ONE _), rfl, rfl, _, rfl, iteFd o1b ?_⟩
    refine ⟨_, rfl, _, _, _, _, rfl, rfl, SqT.of h, rfl, _, _, rfl, .inr (T.k_OF_TWO _), rfl, rfl, _, rfl, iteFd o2b ?_⟩
    refine ⟨_, rfl, _, _, _, _, rfl, rfl, SqT.of h, rfl, rfl, _, rfl, iteFd (by decide +kernel) ?_⟩
    refine ⟨_, rfl, _, _, _, _, rfl, rfl, SqT.of h, rfl, rfl, _, rfl, iteTd (by decide +kernel) ?_⟩
    refine ⟨_, rfl, _, _, rfl, .inr (SqT.of h), rfl, _, rfl, iteTd (by rw [dec_int]; rfl) ?_⟩
    refine ⟨_, rfl, _, _, _, _, rfl, rfl, SqT.of h, rfl, _, rfl, by simp, fun H1 sm => ⟨_, rfl, iteT ?_⟩⟩
    exact ⟨_, rfl, _, _, _, _, rfl, rfl, SqT.of (sm _ _ h), rfl, _, rfl, by rw [tx_len]; exact small5 (by simp), rfl, q _ sm⟩
end
end FY


set_option Elab.async false
set_option linter.all false
set_option pp.maxSteps 4000
set_option maxRecDepth 100000
set_option maxHeartbeats 4000000
namespace FY
open PySem L2 FYR
def sumN : List Tm → Nat
  | [] => 0
  | t :: r => t.nodes + sumN r
theorem sumN_app : ∀ a b : List Tm, sumN (a ++ b) = sumN a + sumN b
  | [], b => by simp [sumN]
  | t :: a, b => by simp [sumN, sumN_app a b]; omega
theorem sumN_parts (t : Tm) : sumN t.parts + 1 = t.nodes := by cases t <;> simp [Tm.parts, sumN, Tm.nodes] <;> omega
theorem sumN_len : ∀ ts : List Tm, ts.length ≤ sumN ts
  | [] => by simp
  | t :: r => by have := sumN_len r; have := t.nodes_pos; simp [sumN]; omega
theorem sumN_mem : ∀ (ts : List Tm) (t : Tm), t ∈ ts → t.nodes ≤ sumN ts
  | [], _, h => by simp at h
  | u :: r, t, h => by
    rcases List.mem_cons.mp h with rfl | h
    · simp [sumN]
    · have := sumN_mem r t h; simp [sumN]; omega
theorem dpAll {K : PySem.W.Frag} {H : Hp} : ∀ {ws : List V} {ts : List Tm}, Paired (TA H) ws ts → DpAll K H ws (ts.map Tm.data)
  | _, _, .nil => .nil
  | _, _, .cons r q => .cons r.dp (dpAll q)
theorem layAll : ∀ ts : List Tm, PyData.canLayAll0 (ts.map Tm.data) = true
  | [] => rfl
  | t :: r => by simp [PyData.canLayAll0, lay_tm, layAll r]
theorem depAll : ∀ ts : List Tm, PyData.depthAll (ts.map Tm.data) ≤ sumN ts
  | [] => by simp [PyData.depthAll]
  | t :: r => by have := depAll r; have := depth_tm t; simp [PyData.depthAll, sumN]; omega
theorem shpAll {ts : List Tm} (h : sumN ts ≤ 40) : SeqAt.shaped (.list (ts.map Tm.data)) = true := by
  unfold SeqAt.shaped
  have := depAll ts
  simp [PyData.canLay0, layAll, PyData.depth]
  omega
theorem shpNil : SeqAt.shaped (.list []) = true := by decide +kernel
theorem eqvNil (ts : List Tm) : PyData.eqv (.list (ts.map Tm.data)) (.list []) = ts.isEmpty := by
  cases ts <;> simp [PyData.eqv, PyData.eqvAll]
theorem paired_len {α β : Type} {R : α → β → Prop} : ∀ {a : List α} {b : List β}, Paired R a b → a.length = b.length
  | _, _, .nil => rfl
  | _, _, .cons _ q => by simp [paired_len q]
theorem paired_app {α β : Type} {R : α → β → Prop} : ∀ {a : List α} {b : List β} {c : List α} {d : List β}, Paired R a b → Paired R c d → Paired R (a ++ c) (b ++ d)
  | _, _, _, _, .nil, q => q
  | _, _, _, _, .cons r p, q => .cons r (paired_app p q)
/-- the last one -/
theorem paired_last {α β : Type} {R : α → β → Prop} {a : List α} {b : List β} (h : Paired R a b) (hb : b ≠ []) : ∃ a0 x b0 y, a = a0 ++ [x] ∧ b = b0 ++ [y] ∧ Paired R a0 b0 ∧ R x y := by
  induction h with
  | nil => exact absurd rfl hb
  | @cons x y as bs r q ih =>
    cases q with
    | nil => exact ⟨[], x, [], y, rfl, rfl, .nil, r⟩
    | cons r2 q2 =>
      obtain ⟨a0, x', b0, y', e1, e2, p, rr⟩ := ih (by simp)
      exact ⟨x :: a0, x', y :: b0, y', by rw [e1]; rfl, by rw [e2]; rfl, .cons r p, rr⟩
theorem _root_.L2.Same.trans' {H H1 H2 : Hp} (a : Same H H1) (b : Same H1 H2) : Same H H2 := fun x o e => b x o (a x o e)
theorem same_at {H H1 : Hp} {L : Addr} {o : HO} (a : Same H H1) (h : H L = none) : Same H (upd H1 L o) := fun b u e => by
  rw [upd_ne (ne_of_none e h)]
  exact a b u e
theorem tups_at {H1 : Hp} {L : Addr} {xs : List V} {o : HO} (h : H1 L = some (.lst xs)) : Tups H1 (upd H1 L o) := fun b ys e => by
  have : b ≠ L := fun q => by rw [q, h] at e; cases e
  rw [upd_ne this]
  exact e
def intAt (σ : St) (i : Nat) : Nat := match σ[i]? with
  | some (some (V.int m)) => m.toNat
  | _ => 0
theorem sz1 : 1 ≤ sizeLine := by decide
section
variable {P : Program} {w : World} {K : PySem.W.Frag} {mg : Str → Option Value} {base : Heap} {aS a1 a2 : Addr} {f : Addr} {fd : FuncData}
abbrev s_is_term : Stmt := top 27
abbrev N_is_term : List Str := ["value", "waiting", "many", "node"]
theorem sc_is_term : FnScope N_is_term ["value"] (defScope s_is_term) := ⟨rfl, rfl, rfl, by decide +kernel, rfl, by decide +kernel, by decide +kernel⟩
theorem ok_is_term (F : Fun K "is_term" "is_term" s_is_term f fd) (T : Txt K mg aS a1 a2) (c_has_shape : C8.Cal P w K mg base 2 "has_shape" spHasShape []) (c_parts_of : C8.Cal P w K mg base 1 "parts_of" spPartsOf []) : FnOk P w K mg base CX0 3 f fd ["value"] spIsTerm := by
  refine F.ok sc_is_term (fun vs H Q E h => ?_) (fun cdv A outer s H vs Q E hr h => ?_)
  · obtain ⟨b, t, rfl, _⟩ := h
    rfl
  obtain ⟨v, t, rfl, ta, hn, q⟩ := h
  refine ⟨_, (pss_cons (ps_par (i := 1) (j := 2) rfl sc_is_term.nd rfl rfl (by decide) rfl rfl (pa_cons (pe_lst (pa_cons (pv 0) pa_nil)) (pa_cons pe_int pa_nil)) rfl)
        (pss_cons (ps_while PassesOwn.never (pt_cmpR (kNeD K rfl hr.units) (pv 1) (pe_lst pa_nil) (nomark _))
        (pss_cons (ps_set (i := 3) sc_is_term.nd rfl (Or.inl rfl) (kBm0 K rfl PySem.F.plainAttrs_list PySem.F.slot_list_pop PySem.F.type_list_pop mt_pop (pv 1)))
        (pss_cons (ps_aug (i := 2) sc_is_term.nd rfl (Or.inl rfl) pe_int ip_add)
        (pss_cons (ps_if (pt_cmpR op_gt (pv 2) (C8.pe_gc rfl T.g_MOST_NODES) (nomark _))
        (pss_one (ps_ret pe_bl))
        pss_nil)
        (pss_one (ps_if (pt_not (pt_val (pe_callB (kIsi K rfl) rfl T.b_isinstance bt_isinstance (pa_cons (pv 3) (pa_cons (pTy rfl T.b_str bt_str) pa_nil)))))
        (pss_cons (ps_if (pt_not (pt_val (C8.pe_c c_has_shape hr (by decide) rfl (pa_cons (pv 3) pa_nil))))
        (pss_one (ps_ret pe_bl))
        pss_nil)
        (pss_one (ps_expr (kBm K rfl PySem.F.plainAttrs_list PySem.F.slot_list_extend PySem.F.type_list_extend (kExtT K rfl) (pv 1) (pa_cons (C8.pe_c c_parts_of hr (by decide) rfl (pa_cons (pv 3) pa_nil)) pa_nil)))))
        (pss_one (ps_if (pt_cmpR (kNeD K rfl hr.units) (pv 3) (C8.pe_gc rfl T.g_IN) (nomark _))
        (pss_one (ps_ret pe_bl))
        pss_nil))))))))
        (pss_one (ps_ret pe_bl)))), ?_⟩
  refine ⟨_, rfl, sz1, fun L hL => ⟨_, _, rfl, ?_⟩⟩
  refine while_by (fun σ H' => ∃ (ws : List V) (ts : List Tm) (m : Nat) (z : Option V), σ = [some v, some (.ref L), some (.int m), z] ∧ H' L = some (.lst ws) ∧ Paired (TA H') ws ts ∧ m + sumN ts = t.nodes ∧ m ≤ 9 ∧ Same H H')
    (fun σ _ => 100 - intAt σ 2) ?h0 ?hs ?mono
  case h0 => exact ⟨[v], [t], 0, _, rfl, upd_same, .cons (ta.keep (Tups.of (same_new hL _))) .nil, by simp [sumN], by omega, same_new hL _⟩
  case mono => exact fun σ H Q Q' m ⟨v, e, hl, f⟩ => ⟨v, e, hl, fun p hp => let ⟨d, e, h1, h2, h3, h4, b, hb, q⟩ := f p hp; ⟨d, e, h1, h2, h3, h4, b, hb, m _ _ q⟩⟩
  case hs =>
    rintro σ H1 ⟨ws, ts, m, z, rfl, hl, hp, hm, h9, sm⟩
    refine ⟨_, rfl, by decide, fun p0 hp0 => ?_⟩
    have k0 := same_new hp0 (.lst [])
    refine ⟨_, _, .lst (SqL.of (k0 _ _ hl)) (dpAll (paired_keep (Tups.of k0) hp)), .lst (SqL.of upd_same) .nil, shpAll (by omega), shpNil, _, rfl, ?_⟩
    rw [eqvNil]
    cases hts : ts with
    | nil =>
      subst hts
      refine iteFd rfl ?_
      have e : decide (t.nodes ≤ 9) = true := by simp [sumN] at hm; simp; omega
      have z := q _ (sm.trans' k0)
      rw [e] at z
      exact z
    | cons t0 r0 => 
      rw [← hts]
      have hne : ts ≠ [] := by rw [hts]; simp
      refine iteTd (by rw [hts]; rfl) ?_
      clear hts
      obtain ⟨ws0, x, ts0, y, rfl, rfl, hp1, hx⟩ := paired_last hp hne
      refine ⟨_, rfl, .inl ⟨rfl, _, SqL.of (k0 _ _ hl)⟩, _, _, x, rfl, rfl, k0 _ _ hl, by simp, ?_⟩
      rw [List.dropLast_concat]
      have hl2 : upd (upd H1 p0 (.lst [])) L (.lst ws0) L = some (.lst ws0) := upd_same
      have sm2 : Same H (upd (upd H1 p0 (.lst [])) L (.lst ws0)) := same_at (sm.trans' k0) hL
      have tu2 : Tups H1 (upd (upd H1 p0 (.lst [])) L (.lst ws0)) := (Tups.of k0).trans (tups_at (k0 _ _ hl))
      generalize upd (upd H1 p0 (.lst [])) L (.lst ws0) = H2 at *
      have hx2 := hx.keep tu2
      have hp2 := paired_keep tu2 hp1
      rw [sumN_app] at hm
      have hy0 : sumN [y] = y.nodes := by simp [sumN]
      have hy := y.nodes_pos
      refine ⟨_, rfl, _, _, rfl, rfl, ?_⟩
      refine ⟨_, rfl, _, _, rfl, rfl, _, rfl, ?_⟩
      by_cases m9 : m = 9
      · refine iteTd (by simp; omega) ?_
        have e : decide (t.nodes ≤ 9) = false := by simp; omega
        have z := q _ sm2
        rw [e] at z
        exact z
      refine iteFd (by simp; omega) ?_
      cases hin : y.isIn with
      | true =>
        have hyi : y = .inn := by cases y <;> first | rfl | cases hin
        subst hyi
        cases (show x = .str "in" from hx2)
        refine ⟨_, rfl, _, _, _, _, _, rfl, .ty _, ty_str _, kss, _, rfl, iteF ?_⟩
        refine ⟨_, rfl, _, _, .str _, .str _, shp_in, shp_in, _, rfl, iteFd (by decide +kernel) ?_⟩
        refine ⟨⟨ws0, ts0, m + 1, _, rfl, hl2, hp2, by have : Tm.inn.nodes = 1 := rfl; omega, by omega, sm2⟩, ?_⟩
        show 100 - ((m : Int) + 1).toNat < 100 - (m : Int).toNat
        omega
      | false =>
        obtain ⟨a, us, rfl, ha, hpa⟩ := hx2.node hin
        refine ⟨_, rfl, _, _, _, _, _, rfl, .ty _, ty_tup ha, kts, _, rfl, iteT ?_⟩
        refine ⟨_, rfl, _, y, rfl, hx2, hin, fun H3 s3 => ⟨_, rfl, iteF ?_⟩⟩
        refine ⟨_, rfl, .inl ⟨rfl, _, SqL.of (s3 _ _ hl2)⟩, _, rfl, _, y, rfl, hx2.keep (Tups.of s3), Nat.le_trans y.dep_le (by omega), fun H4 p ws' s4 hp4 pr4 => ?_⟩
        have hl4 := s4 _ _ (s3 _ _ hl2)
        have hwl := paired_len hp2
        have hwl' := paired_len pr4
        have l1 := sumN_len ts0
        have l2 := sumN_len y.parts
        have l3 := sumN_parts y
        have tu4 : Tups H2 (upd H4 L (.lst (ws0 ++ ws'))) := (Tups.of (s3.trans' s4)).trans (tups_at hl4)
        refine ⟨_, _, _, _, rfl, rfl, hl4, SqT.of hp4, small5 (by omega), ?_⟩
        refine ⟨⟨ws0 ++ ws', ts0 ++ y.parts, m + 1, _, rfl, upd_same, paired_app (paired_keep tu4 hp2) (paired_keep (tups_at hl4) pr4), by rw [sumN_app]; omega, by omega, same_at ((sm2.trans' s3).trans' s4) hL⟩, ?_⟩
        show 100 - ((m : Int) + 1).toNat < 100 - (m : Int).toNat
        omega
abbrev s_want_term : Stmt := top 28
abbrev N_want_term : List Str := ["value"]
theorem sc_want_term : FnScope N_want_term ["value"] (defScope s_want_term) := ⟨rfl, rfl, rfl, by decide +kernel, rfl, by decide +kernel, by decide +kernel⟩
theorem ok_want_term (F : Fun K "want_term" "want_term" s_want_term f fd) (T : Txt K mg aS a1 a2) (c_is_term : C8.Cal P w K mg base 3 "is_term" spIsTerm []) : FnOk P w K mg base CX0 4 f fd ["value"] spWantTerm := by
  refine F.ok sc_want_term (fun vs H Q E h => ?_) (fun cdv A outer s H vs Q E hr h => ?_)
  · obtain ⟨b, t, rfl, _⟩ := h
    rfl
  obtain ⟨v, t, rfl, ta, hn, q⟩ := h
  refine ⟨_, (pss_one (ps_if (pt_not (pt_val (C8.pe_c c_is_term hr (by decide) rfl (pa_cons (pv 0) pa_nil))))
        (pss_one ps_never)
        pss_nil)), ?_⟩
  refine ⟨_, rfl, _, t, rfl, ta, by omega, fun H1 sm => ⟨_, rfl, ?_⟩⟩
  rw [decide_eq_true hn]
  exact iteF (q _ sm)
end
/-! ## flows' parts -/
def spHalf : Sp := fun vs H Q _ => ∃ bs, vs = [.str (tx bs)] ∧ bs.length ≤ 100000 ∧ Q (.str (tx (halfL bs))) H
def spChanges : Sp := fun vs H Q _ => ∃ bs, vs = [.str (tx bs)] ∧ bs.length ≤ 100000 ∧ ∀ H', Same H H' → Q (.str (tx (chgL false bs))) H'
def spCounts : Sp := fun vs H Q _ => ∃ bs, vs = [.str (tx bs)] ∧ bs.length ≤ 100000 ∧ ∀ H', Same H H' → Q (.str (tx (cntL false bs))) H'
def spTurned : Sp := fun vs H Q _ => ∃ b, vs = [.str (sgn b)] ∧ Q (.str (sgn (!b))) H
section
variable {P : Program} {w : World} {K : PySem.W.Frag} {mg : Str → Option Value} {base : Heap} {aS a1 a2 : Addr} {f : Addr} {fd : FuncData}
abbrev s_half_of : Stmt := top 30
abbrev N_half_of : List Str := ["flow"]
theorem sc_half_of : FnScope N_half_of ["flow"] (defScope s_half_of) := ⟨rfl, rfl, rfl, by decide +kernel, rfl, by decide +kernel, by decide +kernel⟩
theorem ok_half_of (F : Fun K "half_of" "half_of" s_half_of f fd) (T : Txt K mg aS a1 a2) : FnOk P w K mg base CX0 1 f fd ["flow"] spHalf := by
  refine F.ok sc_half_of (fun vs H Q E h => ?_) (fun cdv A outer s H vs Q E hr h => ?_)
  · obtain ⟨b, rfl, _⟩ := h
    rfl
  obtain ⟨bs, rfl, hl, q⟩ := h
  refine ⟨_, (pss_one (ps_ret (pe_stepS (pv 0) (po_some pe_int) po_none (po_some pe_int)))), ?_⟩
  refine ⟨_, rfl, _, rfl, _, rfl, _, _, rfl, rfl, by decide, by rw [tx_len]; exact small5 hl, ?_⟩
  rw [step_tx]
  exact q
abbrev s_turned : Stmt := top 33
abbrev N_turned : List Str := ["sign"]
theorem sc_turned : FnScope N_turned ["sign"] (defScope s_turned) := ⟨rfl, rfl, rfl, by decide +kernel, rfl, by decide +kernel, by decide +kernel⟩
theorem ok_turned (F : Fun K "turned" "turned" s_turned f fd) (T : Txt K mg aS a1 a2) : FnOk P w K mg base CX0 1 f fd ["sign"] spTurned := by
  refine F.ok sc_turned (fun vs H Q E h => ?_) (fun cdv A outer s H vs Q E hr h => ?_)
  · obtain ⟨b, rfl, _⟩ := h
    rfl
  obtain ⟨b, rfl, q⟩ := h
  refine ⟨_, (pss_one (ps_ret (pe_ifExp (pt_cmpR op_eq (pv 0) pe_str (nomark _)) pe_str pe_str))), ?_⟩
  cases b with
  | true => exact ⟨_, rfl, rfl, _, rfl, iteFd (by decide +kernel) q⟩
  | false => exact ⟨_, rfl, rfl, _, rfl, iteTd (by decide +kernel) q⟩
end
end FY


set_option Elab.async false
set_option linter.all false
set_option maxRecDepth 100000
set_option maxHeartbeats 4000000
namespace FY
open PySem L2 FYR
abbrev vs (b : Bool) : V := .str (sgn b)
def b2i (b : Bool) : Int := if b then 1 else 0
theorem sg_ne (x y : Bool) : (!decide (V.str ⟨#[cd x]⟩ = V.str ⟨#[cd y]⟩)) = (x != y) := by cases x <;> cases y <;> decide +kernel
theorem sg_eq (x y : Bool) : decide (V.str ⟨#[cd x]⟩ = V.str ⟨#[cd y]⟩) = (x == y) := by cases x <;> cases y <;> decide +kernel
theorem take_one {α β : Type} (f : α → β) {l : List α} {i : Nat} {x : α} (h : l[i]? = some x) : (l.take i).map f ++ [f x] = (l.take (i + 1)).map f := by
  rw [List.take_succ, h]
  simp
theorem chg_get : ∀ (bs : List Bool) (l : Bool) (i : Nat) (x y : Bool), bs[i]? = some x → (l :: bs)[i]? = some y → (chgL l bs)[i]? = some (x != y)
  | [], l, i, x, y, h, _ => by simp at h
  | b :: r, l, 0, x, y, h, h2 => by simp at h h2; subst h; subst h2; simp [chgL]
  | b :: r, l, i + 1, x, y, h, h2 => by
    simp only [List.getElem?_cons_succ] at h h2
    simp only [chgL, List.getElem?_cons_succ]
    exact chg_get r b i x y h h2
theorem cnt_get : ∀ (bs : List Bool) (l : Bool) (i : Nat) (x y : Bool), bs[i]? = some x → (l :: cntL l bs)[i]? = some y → (cntL l bs)[i]? = some (x != y)
  | [], l, i, x, y, h, _ => by simp at h
  | b :: r, l, 0, x, y, h, h2 => by simp at h h2; subst h; subst h2; simp [cntL]
  | b :: r, l, i + 1, x, y, h, h2 => by
    simp only [List.getElem?_cons_succ] at h
    simp only [cntL, List.getElem?_cons_succ] at h2 ⊢
    exact cnt_get r (b != l) i x y h h2
theorem jsum : ∀ bs : List Bool, ((bs.map sgn).map (·.length)).sum = bs.length
  | [] => rfl
  | b :: r => by
    have := jsum r
    simp only [List.map_cons, List.sum_cons, List.length_cons, this]
    have : (sgn b).length = 1 := rfl
    omega
theorem joinEnd {K : PySem.W.Frag} {H : Hp} {D : Addr} {bs : List Bool} {R : VK} (h : H D = some (.lst (bs.map vs))) (hl : bs.length ≤ 100000) (q : R (.str (tx bs)) H) : rJoin K (.str "") [.ref D] H R := by
  refine ⟨"", D, bs.map sgn, rfl, rfl, .inl (SqL.of (by rw [h, List.map_map]; rfl)), ?_, ?_⟩
  · rw [jsum, show ("" : Str).length = 0 from rfl]
    omega
  · rw [se, join_sgn]
    exact q
theorem tx_char {bs : List Bool} {i c : Nat} (h : (tx bs).cps[i]? = some c) : ∃ b, bs[i]? = some b ∧ c = cd b := by
  rw [tx_get] at h
  obtain ⟨b, hb, rfl⟩ := Option.map_eq_some_iff.mp h
  exact ⟨b, hb, rfl⟩
theorem sl640 (c : Nat) : ({ cps := #[c] } : Str).length ≤ 640 := by
  show 1 ≤ 640
  decide
theorem lt_len {α : Type} {l : List α} {i : Nat} {x : α} (h : l[i]? = some x) : i < l.length := (List.getElem?_eq_some_iff.mp h).1
theorem take_len_le {α β : Type} (f : α → β) (l : List α) (i : Nat) (hl : i < 100000) : ((l.take i).map f).length < sizeLine := by
  rw [List.length_map, List.length_take]
  exact Nat.lt_of_lt_of_le (show min i l.length < 100000 by omega) (by decide)
section
variable {P : Program} {w : World} {K : PySem.W.Frag} {mg : Str → Option Value} {base : Heap} {aS a1 a2 : Addr} {f : Addr} {fd : FuncData}
abbrev s_changes_of : Stmt := top 31
abbrev N_changes_of : List Str := ["flow", "sign", "ahead"]
theorem sc_changes_of : FnScope N_changes_of ["flow"] (defScope s_changes_of) := ⟨rfl, rfl, rfl, by decide +kernel, rfl, by decide +kernel, by decide +kernel⟩
theorem ok_changes_of (F : Fun K "changes_of" "changes_of" s_changes_of f fd) (T : Txt K mg aS a1 a2) : FnOk P w K mg base CX0 1 f fd ["flow"] spChanges := by
  refine F.ok sc_changes_of (fun vs H Q E h => ?_) (fun cdv A outer s H vs Q E hr h => ?_)
  · obtain ⟨b, rfl, _⟩ := h
    rfl
  obtain ⟨bs, rfl, hl, q⟩ := h
  refine ⟨_, (pss_one (ps_ret (kJoin K rfl pe_str (pe_lc (own := [("sign", 1), ("ahead", 2)]) rfl sc_changes_of.nd (pi_zipS rfl T.b_zip (pa_cons (pv 0) (pa_cons (pe_op op_add_str pe_str (pv 0)) pa_nil))) (blkOk_by (N := N_changes_of) (sc := defScope s_changes_of) (by decide +kernel)) (fun _ _ _ _ _ => (kTupG (n := 2) K rfl rfl (pgs_cons (pg_name (i := 1) sc_changes_of.nd rfl (Or.inl rfl)) (pgs_cons (pg_name (i := 2) sc_changes_of.nd rfl (Or.inl rfl)) pgs_nil)))) (fun _ _ _ _ _ => pts_nil) (fun _ _ _ _ _ => (pe_callTy call_str_int rfl T.b_str bt_str (pa_cons (pe_callTy call_int1 rfl T.b_int bt_int (pa_cons (pe_cmpR op_ne (pv 1) (pv 2) (nomark _)) pa_nil)) pa_nil))))))), ?_⟩
  have e0 : ("0" : Str) ++ tx bs = tx (false :: bs) := by rw [s0, sgn_tx, tx_app]; rfl
  have hsz : (min (tx bs).cps.size (tx (false :: bs)).cps.size) = bs.length := by rw [tx_size, tx_size]; simp
  refine ⟨⟨_, rfl⟩, _, rfl, _, rfl, _, _, rfl, rfl, ?_, ?_⟩
  · rw [tx_len]; exact Nat.le_trans (show _ ≤ 100001 by show 1 + bs.length ≤ 100001; omega) (by decide)
  rw [e0]
  refine ⟨_, _, rfl, fun D hD => lc_it walk_zipS (fun i H' => Same H H' ∧ H' D = some (.lst (((chgL false bs).take i).map vs))) ⟨same_new hD _, upd_same⟩ (fun _ _ _ _ => trivial) ?_ ?_⟩
  · rintro i x H1 H2 hi ⟨sm, hd⟩ ⟨t, c, d, rfl, ht, rfl, hc, hd2⟩
    obtain ⟨x, hx, rfl⟩ := tx_char hc
    obtain ⟨y, hy, rfl⟩ := tx_char hd2
    have hg := chg_get bs false i x y hx hy
    have hil := lt_len hx
    refine ⟨_, _, rfl, SqT.of upd_same, rfl, _, _, rfl, _, _, rfl, rfl, rfl, tyI ?_⟩
    refine ⟨_, rfl, _, rfl, rfl, .inr ⟨_, rfl, _, rfl, ?_, ?_⟩⟩
    · rw [sg_ne]
      cases (x != y) <;> decide
    have hDt : D ≠ t := fun z => by rw [z, ht] at hd; cases hd
    rw [sg_ne]
    refine ⟨_, (upd_ne hDt).trans hd, take_len_le _ _ _ (by omega), same_at (sm.trans' (same_new ht _)) hD, ?_⟩
    rw [upd_same, ← take_one _ hg]
    rw [show ((toString (if (x != y) = true then (1 : Int) else 0) : String) : Str) = sgn (x != y) from str_bit _]
  · rintro H1 ⟨sm, hd⟩
    rw [hsz, List.take_of_length_le (by rw [chgL_len]; omega)] at hd
    exact joinEnd hd (by rw [chgL_len]; exact hl) (q _ sm)
abbrev s_counts_of : Stmt := top 32
abbrev N_counts_of : List Str := ["flow", "found", "odd", "sign"]
theorem sc_counts_of : FnScope N_counts_of ["flow"] (defScope s_counts_of) := ⟨rfl, rfl, rfl, by decide +kernel, rfl, by decide +kernel, by decide +kernel⟩
theorem ok_counts_of (F : Fun K "counts_of" "counts_of" s_counts_of f fd) (T : Txt K mg aS a1 a2) : FnOk P w K mg base CX0 1 f fd ["flow"] spCounts := by
  refine F.ok sc_counts_of (fun vs H Q E h => ?_) (fun cdv A outer s H vs Q E hr h => ?_)
  · obtain ⟨b, rfl, _⟩ := h
    rfl
  obtain ⟨bs, rfl, hl, q⟩ := h
  refine ⟨_, (pss_cons (ps_par (i := 1) (j := 2) rfl sc_counts_of.nd rfl rfl (by decide) rfl rfl (pa_cons (pe_lst pa_nil) (pa_cons pe_int pa_nil)) rfl)
        (pss_cons (ps_for PassesOwn.never rfl (pi_str (pv 0)) (pg_name (i := 3) sc_counts_of.nd rfl (Or.inl rfl))
        (pss_cons (ps_set (i := 2) sc_counts_of.nd rfl (Or.inl rfl) (pe_op op_mod (pe_op op_add (pv 2) (pe_callTy call_int_str rfl T.b_int bt_int (pa_cons (pv 3) pa_nil))) pe_int))
        (pss_one (ps_expr (kBm K rfl PySem.F.plainAttrs_list PySem.F.slot_list_append PySem.F.type_list_append mt_append (pv 1) (pa_cons (pe_callTy call_str_int rfl T.b_str bt_str (pa_cons (pv 2) pa_nil)) pa_nil))))))
        (pss_one (ps_ret (kJoin K rfl pe_str (pv 1)))))), ?_⟩
  refine ⟨Nat.zero_le _, fun L hL => ⟨_, _, rfl, _, rfl, _, rfl, for_it walk_str (fun i σ H' => ∃ (y : Bool) (z : Option V), σ = [some (.str (tx bs)), some (.ref L), some (.int (b2i y)), z] ∧ (false :: cntL false bs)[i]? = some y ∧ H' L = some (.lst (((cntL false bs).take i).map vs)) ∧ Same H H') ⟨false, _, rfl, rfl, upd_same, same_new hL _⟩ (fun _ _ _ _ _ => trivial) ?_ ?_⟩⟩
  · rintro i x σ H1 H2 hi ⟨y, z, rfl, hy, hd, sm⟩ ⟨rfl, c, hc, rfl⟩
    obtain ⟨x, hx, rfl⟩ := tx_char hc
    have hg := cnt_get bs false i x y hx hy
    have hil := lt_len hx
    refine ⟨_, rfl, _, rfl, _, _, rfl, int_sgn x, sl640 _, _, _, rfl, rfl, _, _, rfl, rfl, (by decide : (0 : Int) < 2), ?_⟩
    have e : (b2i y + if x = true then 1 else 0) % 2 = b2i (x != y) := by cases x <;> cases y <;> rfl
    simp only [e]
    refine ⟨_, rfl, .inl ⟨rfl, _, SqL.of hd⟩, _, rfl, _, rfl, by cases (x != y) <;> decide, _, _, _, rfl, rfl, hd, take_len_le _ _ _ (by omega), ?_⟩
    refine ⟨x != y, _, rfl, by rw [List.getElem?_cons_succ]; exact hg, ?_, same_at sm hL⟩
    rw [upd_same, ← take_one _ hg]
    rw [show ((toString (b2i (x != y)) : String) : Str) = sgn (x != y) from str_bit _]
  · rintro σ H1 ⟨y, z, rfl, hy, hd, sm⟩
    rw [tx_size, List.take_of_length_le (by rw [cntL_len]; omega)] at hd
    refine ⟨⟨_, rfl⟩, _, rfl, ?_⟩
    exact joinEnd hd (by rw [cntL_len]; exact hl) (q _ sm)
end
theorem flat_dbl : ∀ bs : List Bool, (bs.map fun b => [b, b]).flatten = dblL bs
  | [] => rfl
  | b :: r => by
    have h := flat_dbl r
    simp only [List.map_cons, List.flatten_cons, dblL, ← h]
    rfl
theorem jsumL : ∀ ys : List (List Bool), ((ys.map tx).map (·.length)).sum = ys.flatten.length
  | [] => rfl
  | y :: r => by
    have := jsumL r
    simp only [List.map_cons, List.sum_cons, List.flatten_cons, List.length_append, this, tx_len]
theorem joinEndL {K : PySem.W.Frag} {H : Hp} {D : Addr} {ys : List (List Bool)} {R : VK} (h : H D = some (.lst (ys.map fun y => V.str (tx y)))) (hl : ys.flatten.length ≤ 1000000) (q : R (.str (tx ys.flatten)) H) : rJoin K (.str "") [.ref D] H R := by
  refine ⟨"", D, ys.map tx, rfl, rfl, .inl (SqL.of (by rw [h, List.map_map]; rfl)), ?_, ?_⟩
  · rw [jsumL, show ("" : Str).length = 0 from rfl]
    omega
  · rw [se, join_tx]
    exact q
theorem by_get (a b c d : Bool) : ∀ (f g : List Bool) (i : Nat) (x y : Bool), f[i]? = some x → g[i]? = some y → (byL a b c d f g)[i]? = some (if x then (if y then d else c) else (if y then b else a))
  | [], g, i, x, y, h, _ => by simp at h
  | _ :: _, [], i, x, y, _, h => by simp at h
  | u :: r, v :: s, 0, x, y, h, h2 => by simp at h h2; subst h; subst h2; simp [byL]
  | u :: r, v :: s, i + 1, x, y, h, h2 => by
    simp only [List.getElem?_cons_succ] at h h2
    simp only [byL, List.getElem?_cons_succ]
    exact by_get a b c d r s i x y h h2
theorem by_len (a b c d : Bool) : ∀ (f g : List Bool), (byL a b c d f g).length = min f.length g.length
  | [], g => by simp [byL]
  | _ :: _, [] => by simp [byL]
  | u :: r, v :: s => by
    have := by_len a b c d r s
    simp only [byL, List.length_cons, this]
    omega
theorem keep_snoc : ∀ (f g : List Bool) (i : Nat) (x y : Bool), f[i]? = some x → g[i]? = some y → keepL (f.take (i + 1)) (g.take (i + 1)) = keepL (f.take i) (g.take i) ++ (if y then [x] else [])
  | [], g, i, x, y, h, _ => by simp at h
  | _ :: _, [], i, x, y, _, h => by simp at h
  | u :: r, v :: s, 0, x, y, h, h2 => by simp at h h2; subst h; subst h2; cases v <;> simp [keepL]
  | u :: r, v :: s, i + 1, x, y, h, h2 => by
    simp only [List.getElem?_cons_succ] at h h2
    have := keep_snoc r s i x y h h2
    rw [List.take_succ_cons, List.take_succ_cons, List.take_succ_cons, List.take_succ_cons]
    cases v
    · simp only [keepL]; exact this
    · simp only [keepL, if_true, this]; rfl
theorem keep_all : ∀ (f g : List Bool), keepL (f.take (min f.length g.length)) (g.take (min f.length g.length)) = keepL f g
  | [], g => by simp [keepL]
  | _ :: _, [] => by simp [keepL]
  | u :: r, v :: s => by
    have := keep_all r s
    rw [show min (u :: r).length (v :: s).length = min r.length s.length + 1 by simp only [List.length_cons]; omega, List.take_succ_cons, List.take_succ_cons]
    cases v
    · simp only [keepL]; exact this
    · simp only [keepL, this]
def spOfOne : Sp := fun vs H Q _ => ∃ v t bs, vs = [v, .str (tx bs)] ∧ TA H v t ∧ t.parts.length = 1 ∧ bs.length ≤ 40000 ∧ ∀ H', Same H H' → Q (.str (tx (op1 t bs))) H'
def spOfTwo : Sp := fun vs H Q _ => ∃ v t fs gs, vs = [v, .str (tx fs), .str (tx gs)] ∧ TA H v t ∧ t.parts.length = 2 ∧ t.word ≠ "then" ∧ fs.length ≤ 40000 ∧ ∀ H', Same H H' → Q (.str (tx (op2 t fs gs))) H'
section
variable {P : Program} {w : World} {K : PySem.W.Frag} {mg : Str → Option Value} {base : Heap} {aS a1 a2 : Addr} {f : Addr} {fd : FuncData}
abbrev s_of_one : Stmt := top 34
abbrev N_of_one : List Str := ["term", "flow", "sign"]
theorem sc_of_one : FnScope N_of_one ["term", "flow"] (defScope s_of_one) := ⟨rfl, rfl, rfl, by decide +kernel, rfl, by decide +kernel, by decide +kernel⟩
theorem ok_of_one (F : Fun K "of_one" "of_one" s_of_one f fd) (T : Txt K mg aS a1 a2) (c_half_of : C8.Cal P w K mg base 1 "half_of" spHalf []) (c_turned : C8.Cal P w K mg base 1 "turned" spTurned []) (c_changes_of : C8.Cal P w K mg base 1 "changes_of" spChanges []) (c_counts_of : C8.Cal P w K mg base 1 "counts_of" spCounts []) : FnOk P w K mg base CX0 2 f fd ["term", "flow"] spOfOne := by
  refine F.ok sc_of_one (fun vs H Q E h => ?_) (fun cdv A outer s H vs Q E hr h => ?_)
  · obtain ⟨b, t, bs, rfl, _⟩ := h
    rfl
  obtain ⟨v, t, bs, rfl, ta, hp, hl, q⟩ := h
  refine ⟨_, (pss_cons (ps_if (pt_cmpR op_eq (pe_ix (kIxT K rfl) (pv 0) pe_int (fun _ _ => rfl)) pe_str (nomark _))
        (pss_one (ps_ret (kJoin K rfl pe_str (pe_lc (own := [("sign", 2)]) rfl sc_of_one.nd (pi_str (pv 1)) (blkOk_by (N := N_of_one) (sc := defScope s_of_one) (by decide +kernel)) (fun _ _ _ _ _ => (pg_name (i := 2) sc_of_one.nd rfl (Or.inl rfl))) (fun _ _ _ _ _ => pts_nil) (fun _ _ _ _ _ => (C8.pe_c c_turned hr (by decide) rfl (pa_cons (pv 2) pa_nil)))))))
        pss_nil)
        (pss_cons (ps_if (pt_cmpR op_eq (pe_ix (kIxT K rfl) (pv 0) pe_int (fun _ _ => rfl)) (C8.pe_gc rfl T.g_LATE) (nomark _))
        (pss_one (ps_ret (pe_slice sl_str (pe_op op_add_str (pe_ix (kIxT K rfl) (pv 0) pe_int (fun _ _ => rfl)) (pv 1)) po_none (po_some (pe_callB call_len_str rfl T.b_len bt_len (pa_cons (pv 1) pa_nil))))))
        pss_nil)
        (pss_cons (ps_if (pt_cmpR op_eq (pe_ix (kIxT K rfl) (pv 0) pe_int (fun _ _ => rfl)) pe_str (nomark _))
        (pss_one (ps_ret (kJoin K rfl pe_str (pe_lc (own := [("sign", 2)]) rfl sc_of_one.nd (pi_str (pv 1)) (blkOk_by (N := N_of_one) (sc := defScope s_of_one) (by decide +kernel)) (fun _ _ _ _ _ => (pg_name (i := 2) sc_of_one.nd rfl (Or.inl rfl))) (fun _ _ _ _ _ => pts_nil) (fun _ _ _ _ _ => (pe_op op_add_str (pv 2) (pv 2)))))))
        pss_nil)
        (pss_cons (ps_if (pt_cmpR op_eq (pe_ix (kIxT K rfl) (pv 0) pe_int (fun _ _ => rfl)) pe_str (nomark _))
        (pss_one (ps_ret (C8.pe_c c_half_of hr (by decide) rfl (pa_cons (pv 1) pa_nil))))
        pss_nil)
        (pss_one (ps_ret (pe_ifExp (pt_cmpR op_eq (pe_ix (kIxT K rfl) (pv 0) pe_int (fun _ _ => rfl)) pe_str (nomark _)) (C8.pe_c c_changes_of hr (by decide) rfl (pa_cons (pv 1) pa_nil)) (C8.pe_c c_counts_of hr (by decide) rfl (pa_cons (pv 1) pa_nil))))))))), ?_⟩
  cases t with
  | inn => cases hp
  | byy _ _ _ _ _ _ => cases hp
  | keep _ _ => cases hp
  | thn _ _ => cases hp
  | late b t =>
    obtain ⟨a, x, rfl, h, r⟩ := ta
    refine ⟨_, rfl, _, _, _, _, rfl, rfl, SqT.of h, rfl, rfl, _, rfl, iteFd (by decide +kernel) ?_⟩
    refine ⟨_, rfl, _, _, _, _, rfl, rfl, SqT.of h, rfl, rfl, _, rfl, iteTd (by decide +kernel) ?_⟩
    refine ⟨_, rfl, _, _, _, _, rfl, rfl, SqT.of h, rfl, _, rfl, _, _, rfl, rfl, ?_, _, rfl, _, rfl, by rw [tx_len]; exact small5 (by omega), _, rfl, _, rfl, ?_, ?_⟩
    · rw [tx_len]; exact small5 (show 1 + bs.length ≤ 100000 by omega)
    · rw [sgn_tx, tx_app, tx_len]; exact small5 (by simp; omega)
    rw [sgn_tx, tx_app, tx_len, cut_to]
    exact q _ (Same.refl _)
  | one w t =>
    obtain ⟨a, x, rfl, h, r⟩ := ta
    cases w with
    | no =>
      refine ⟨_, rfl, _, _, _, _, rfl, rfl, SqT.of h, rfl, rfl, _, rfl, iteTd (by decide +kernel) ?_⟩
      refine ⟨⟨_, rfl⟩, _, rfl, _, rfl, fun D hD => lc_it walk_str (fun i H' => Same H H' ∧ H' D = some (.lst (((bs.map (!·)).take i).map vs))) ⟨same_new hD _, upd_same⟩ (fun _ _ _ _ => trivial) ?_ ?_⟩
      · rintro i x H1 H2 hi ⟨sm, hd⟩ ⟨rfl, c, hc, rfl⟩
        obtain ⟨x, hx, rfl⟩ := tx_char hc
        have hil := lt_len hx
        refine ⟨rfl, tyI ⟨_, rfl, x, rfl, _, hd, take_len_le _ _ _ (by omega), same_at sm hD, ?_⟩⟩
        rw [upd_same, ← take_one _ (show (bs.map (!·))[i]? = some (!x) by simp [hx])]
      · rintro H1 ⟨sm, hd⟩
        rw [tx_size, List.take_of_length_le (by simp)] at hd
        exact joinEnd hd (by simp; omega) (q _ sm)
    | twice =>
      refine ⟨_, rfl, _, _, _, _, rfl, rfl, SqT.of h, rfl, rfl, _, rfl, iteFd (by decide +kernel) ?_⟩
      refine ⟨_, rfl, _, _, _, _, rfl, rfl, SqT.of h, rfl, rfl, _, rfl, iteFd (by decide +kernel) ?_⟩
      refine ⟨_, rfl, _, _, _, _, rfl, rfl, SqT.of h, rfl, rfl, _, rfl, iteTd (by decide +kernel) ?_⟩
      refine ⟨⟨_, rfl⟩, _, rfl, _, rfl, fun D hD => lc_it walk_str (fun i H' => Same H H' ∧ H' D = some (.lst (((bs.map fun b => [b, b]).take i).map fun y => V.str (tx y)))) ⟨same_new hD _, upd_same⟩ (fun _ _ _ _ => trivial) ?_ ?_⟩
      · rintro i x H1 H2 hi ⟨sm, hd⟩ ⟨rfl, c, hc, rfl⟩
        obtain ⟨x, hx, rfl⟩ := tx_char hc
        have hil := lt_len hx
        refine ⟨rfl, tyI ⟨_, rfl, _, rfl, _, _, rfl, rfl, ?_, _, hd, take_len_le _ _ _ (by omega), same_at sm hD, ?_⟩⟩
        · exact small5 (show 1 + 1 ≤ 100000 by decide)
        rw [upd_same, ← take_one _ (show (bs.map fun b => [b, b])[i]? = some [x, x] by simp [hx])]
        rw [show (({ cps := #[cd x] } : Str) ++ ({ cps := #[cd x] } : Str)) = tx [x, x] from tx_app [x] [x]]
      · rintro H1 ⟨sm, hd⟩
        rw [tx_size, List.take_of_length_le (by simp)] at hd
        refine joinEndL hd (by rw [flat_dbl, dblL_len]; omega) ?_
        rw [flat_dbl]
        exact q _ sm
    | half =>
      refine ⟨_, rfl, _, _, _, _, rfl, rfl, SqT.of h, rfl, rfl, _, rfl, iteFd (by decide +kernel) ?_⟩
      refine ⟨_, rfl, _, _, _, _, rfl, rfl, SqT.of h, rfl, rfl, _, rfl, iteFd (by decide +kernel) ?_⟩
      refine ⟨_, rfl, _, _, _, _, rfl, rfl, SqT.of h, rfl, rfl, _, rfl, iteFd (by decide +kernel) ?_⟩
      refine ⟨_, rfl, _, _, _, _, rfl, rfl, SqT.of h, rfl, rfl, _, rfl, iteTd (by decide +kernel) ?_⟩
      exact ⟨_, rfl, bs, rfl, by omega, q _ (Same.refl _)⟩
    | change =>
      refine ⟨_, rfl, _, _, _, _, rfl, rfl, SqT.of h, rfl, rfl, _, rfl, iteFd (by decide +kernel) ?_⟩
      refine ⟨_, rfl, _, _, _, _, rfl, rfl, SqT.of h, rfl, rfl, _, rfl, iteFd (by decide +kernel) ?_⟩
      refine ⟨_, rfl, _, _, _, _, rfl, rfl, SqT.of h, rfl, rfl, _, rfl, iteFd (by decide +kernel) ?_⟩
      refine ⟨_, rfl, _, _, _, _, rfl, rfl, SqT.of h, rfl, rfl, _, rfl, iteFd (by decide +kernel) ?_⟩
      refine ⟨_, rfl, _, _, _, _, rfl, rfl, SqT.of h, rfl, rfl, _, rfl, iteTd (by decide +kernel) ?_⟩
      exact ⟨_, rfl, bs, rfl, by omega, q⟩
    | count =>
      refine ⟨_, rfl, _, _, _, _, rfl, rfl, SqT.of h, rfl, rfl, _, rfl, iteFd (by decide +kernel) ?_⟩
      refine ⟨_, rfl, _, _, _, _, rfl, rfl, SqT.of h, rfl, rfl, _, rfl, iteFd (by decide +kernel) ?_⟩
      refine ⟨_, rfl, _, _, _, _, rfl, rfl, SqT.of h, rfl, rfl, _, rfl, iteFd (by decide +kernel) ?_⟩
      refine ⟨_, rfl, _, _, _, _, rfl, rfl, SqT.of h, rfl, rfl, _, rfl, iteFd (by decide +kernel) ?_⟩
      refine ⟨_, rfl, _, _, _, _, rfl, rfl, SqT.of h, rfl, rfl, _, rfl, iteFd (by decide +kernel) ?_⟩
      exact ⟨_, rfl, bs, rfl, by omega, q⟩
abbrev s_of_two : Stmt := top 35
abbrev N_of_two : List Str := ["term", "one", "other", "sign", "mate"]
theorem sc_of_two : FnScope N_of_two ["term", "one", "other"] (defScope s_of_two) := ⟨rfl, rfl, rfl, by decide +kernel, rfl, by decide +kernel, by decide +kernel⟩
theorem ok_of_two (F : Fun K "of_two" "of_two" s_of_two f fd) (T : Txt K mg aS a1 a2) : FnOk P w K mg base CX0 1 f fd ["term", "one", "other"] spOfTwo := by
  refine F.ok sc_of_two (fun vs H Q E h => ?_) (fun cdv A outer s H vs Q E hr h => ?_)
  · obtain ⟨b, t, fs, gs, rfl, _⟩ := h
    rfl
  obtain ⟨v, t, fs, gs, rfl, ta, hp, hw, hl, q⟩ := h
  refine ⟨_, (pss_cons (ps_if (pt_cmpR op_eq (pe_ix (kIxT K rfl) (pv 0) pe_int (fun _ _ => rfl)) (C8.pe_gc rfl T.g_KEEP) (nomark _))
        (pss_one (ps_ret (kJoin K rfl pe_str (pe_lc (own := [("sign", 3), ("mate", 4)]) rfl sc_of_two.nd (pi_zipS rfl T.b_zip (pa_cons (pv 1) (pa_cons (pv 2) pa_nil))) (blkOk_by (N := N_of_two) (sc := defScope s_of_two) (by decide +kernel)) (fun _ _ _ _ _ => (kTupG (n := 2) K rfl rfl (pgs_cons (pg_name (i := 3) sc_of_two.nd rfl (Or.inl rfl)) (pgs_cons (pg_name (i := 4) sc_of_two.nd rfl (Or.inl rfl)) pgs_nil)))) (fun _ _ _ _ _ => pts_one (pt_cmpR op_eq (pv 4) pe_str (nomark _))) (fun _ _ _ _ _ => (pv 3))))))
        pss_nil)
        (pss_one (ps_ret (kJoin K rfl pe_str (pe_lc (own := [("sign", 3), ("mate", 4)]) rfl sc_of_two.nd (pi_zipS rfl T.b_zip (pa_cons (pv 1) (pa_cons (pv 2) pa_nil))) (blkOk_by (N := N_of_two) (sc := defScope s_of_two) (by decide +kernel)) (fun _ _ _ _ _ => (kTupG (n := 2) K rfl rfl (pgs_cons (pg_name (i := 3) sc_of_two.nd rfl (Or.inl rfl)) (pgs_cons (pg_name (i := 4) sc_of_two.nd rfl (Or.inl rfl)) pgs_nil)))) (fun _ _ _ _ _ => pts_nil) (fun _ _ _ _ _ => (pe_ix ix_str (pe_ix (kIxT K rfl) (pv 0) pe_int (fun _ _ => rfl)) (pe_op op_add (pe_op op_mul pe_int (pe_callTy call_int_str rfl T.b_int bt_int (pa_cons (pv 3) pa_nil))) (pe_callTy call_int_str rfl T.b_int bt_int (pa_cons (pv 4) pa_nil))) (fun _ _ => rfl)))))))), ?_⟩
  have hsz : (min (tx fs).cps.size (tx gs).cps.size) = min fs.length gs.length := by rw [tx_size, tx_size]
  cases t with
  | inn => cases hp
  | one _ _ => cases hp
  | late _ _ => cases hp
  | thn _ _ => exact absurd rfl hw
  | keep t u =>
    obtain ⟨a, x, y, rfl, h, r⟩ := ta
    refine ⟨_, rfl, _, _, _, _, rfl, rfl, SqT.of h, rfl, rfl, _, rfl, iteTd (by decide +kernel) ?_⟩
    refine ⟨⟨_, rfl⟩, _, rfl, _, rfl, _, _, rfl, fun D hD => lc_it walk_zipS (fun i H' => Same H H' ∧ H' D = some (.lst ((keepL (fs.take i) (gs.take i)).map vs))) ⟨same_new hD _, upd_same⟩ (fun _ _ _ _ => trivial) ?_ ?_⟩
    · rintro i x H1 H2 hi ⟨sm, hd⟩ ⟨t, c, d, rfl, ht, rfl, hc, hd2⟩
      obtain ⟨x, hx, rfl⟩ := tx_char hc
      obtain ⟨y, hy, rfl⟩ := tx_char hd2
      have hil := lt_len hx
      have hDt : D ≠ t := fun z => by rw [z, ht] at hd; cases hd
      have hsn := keep_snoc fs gs i x y hx hy
      have hkl := keepL_len (fs.take i) (gs.take i)
      refine ⟨_, _, rfl, SqT.of upd_same, rfl, _, _, rfl, _, _, rfl, rfl, rfl, ?_⟩
      refine ⟨_, rfl, rfl, _, rfl, ?_⟩
      rw [show decide (V.str { cps := #[cd y] } = V.str (Str.ofString "1")) = y by cases y <;> decide +kernel]
      cases y with
      | false =>
        refine iteF ⟨sm.trans' (same_new ht _), ?_⟩
        rw [upd_ne hDt, hd, hsn]
        simp
      | true =>
        refine iteT ⟨_, rfl, _, (upd_ne hDt).trans hd, ?_, same_at (sm.trans' (same_new ht _)) hD, ?_⟩
        · rw [List.length_map]
          rw [List.length_take] at hkl
          exact Nat.lt_of_lt_of_le (show _ < 100000 by omega) (by decide)
        rw [upd_same, hsn]
        simp
        rfl
    · rintro H1 ⟨sm, hd⟩
      rw [hsz, keep_all] at hd
      have := keepL_len fs gs
      exact joinEnd hd (by omega) (q _ sm)
  | byy b1 b2 b3 b4 t u =>
    obtain ⟨a, x, y, rfl, h, r⟩ := ta
    refine ⟨_, rfl, _, _, _, _, rfl, rfl, SqT.of h, rfl, rfl, _, rfl, iteFd (by decide +kernel) ?_⟩
    refine ⟨⟨_, rfl⟩, _, rfl, _, rfl, _, _, rfl, fun D hD => lc_it walk_zipS (fun i H' => Same H H' ∧ H' D = some (.lst (((byL b1 b2 b3 b4 fs gs).take i).map vs))) ⟨same_new hD _, upd_same⟩ (fun _ _ _ _ => trivial) ?_ ?_⟩
    · rintro i x H1 H2 hi ⟨sm, hd⟩ ⟨t, c, d, rfl, ht, rfl, hc, hd2⟩
      obtain ⟨x, hx, rfl⟩ := tx_char hc
      obtain ⟨y, hy, rfl⟩ := tx_char hd2
      have hil := lt_len hx
      have hDt : D ≠ t := fun z => by rw [z, ht] at hd; cases hd
      have hg := by_get b1 b2 b3 b4 fs gs i x y hx hy
      refine ⟨_, _, rfl, SqT.of upd_same, rfl, _, _, rfl, _, _, rfl, rfl, rfl, tyI ?_⟩
      refine ⟨_, rfl, _, _, _, _, rfl, rfl, SqT.of ((sm.trans' (same_new ht _)) _ _ h), rfl, _, rfl, _, _, rfl, int_sgn x, sl640 _, _, _, rfl, rfl, .inl (by decide), _, rfl, _, _, rfl, int_sgn y, sl640 _, _, _, rfl, rfl, ?_⟩
      refine ⟨_, _, cd (if x then (if y then b4 else b3) else (if y then b2 else b1)), rfl, rfl, by rw [tx_len]; exact small5 (by simp), ?_, ?_⟩
      · rw [tx_toList]
        cases x <;> cases y <;> rfl
      refine ⟨_, (upd_ne hDt).trans hd, take_len_le _ _ _ (by omega), same_at (sm.trans' (same_new ht _)) hD, ?_⟩
      rw [upd_same, ← take_one _ hg]
      rfl
    · rintro H1 ⟨sm, hd⟩
      rw [hsz, List.take_of_length_le (by rw [by_len]; omega)] at hd
      exact joinEnd hd (by rw [by_len]; omega) (q _ sm)
end
end FY


set_option Elab.async false
set_option linter.all false
set_option maxRecDepth 100000
set_option maxHeartbeats 4000000
namespace FY
open PySem L2 FYR
def spFlowBy (n : Nat) : Sp := fun vs H Q _ => ∃ v t bs, vs = [v, .str (tx bs)] ∧ TA H v t ∧ t.nodes ≤ n ∧ t.nodes ≤ 9 ∧ 2 ^ (t.nodes - 1) * bs.length ≤ 8000 ∧ ∀ H', Same H H' → Q (.str (tx (flow t bs))) H'
def spFlowOf : Sp := fun vs H Q _ => ∃ v t bs, vs = [v, .str (tx bs)] ∧ TA H v t ∧ t.nodes ≤ 9 ∧ bs.length ≤ 1000 ∧ 2 ^ (t.nodes - 1) * bs.length ≤ 8000 ∧ ∀ H', Same H H' → Q (.str (tx (flow t bs))) H'
theorem pow_le {a b n : Nat} (h : a ≤ b) (hb : 2 ^ b * n ≤ 8000) : 2 ^ a * n ≤ 8000 := Nat.le_trans (Nat.mul_le_mul_right n (Nat.pow_le_pow_right (by decide) h)) hb
theorem thn_le {t u : Tm} {bs : List Bool} (hb : 2 ^ (t.nodes + u.nodes + 1 - 1) * bs.length ≤ 8000) : 2 ^ (u.nodes - 1) * (flow t bs).length ≤ 8000 := by
  have h1 := flow_len t bs
  have h3 := t.nodes_pos
  have h4 := u.nodes_pos
  have e1 := Nat.mul_le_mul_left (2 ^ (u.nodes - 1)) h1
  rw [← Nat.mul_assoc, ← Nat.pow_add] at e1
  exact Nat.le_trans e1 (pow_le (by omega) hb)
theorem flow_8000 {t : Tm} {bs : List Bool} (hb : 2 ^ (t.nodes - 1) * bs.length ≤ 8000) : (flow t bs).length ≤ 8000 := Nat.le_trans (flow_len t bs) hb
theorem flow_op1 (t : Tm) (bs : List Bool) (u : Tm) (h : t.parts = [u]) : flow t bs = op1 t (flow u bs) := by
  cases t <;> simp [Tm.parts] at h <;> subst h <;> rfl
theorem flow_op2 (t : Tm) (bs : List Bool) (u v : Tm) (h : t.parts = [u, v]) (hw : t.word ≠ "then") : flow t bs = op2 t (flow u bs) (flow v bs) := by
  cases t <;> simp [Tm.parts] at h
  · obtain ⟨rfl, rfl⟩ := h; rfl
  · obtain ⟨rfl, rfl⟩ := h; rfl
  · exact absurd rfl hw
theorem parts_two (t : Tm) (h : t.isIn = false) : (∃ u, t.parts = [u]) ∨ ∃ u v, t.parts = [u, v] := by
  cases t with
  | inn => cases h
  | one _ _ => exact .inl ⟨_, rfl⟩
  | late _ _ => exact .inl ⟨_, rfl⟩
  | _ => exact .inr ⟨_, _, rfl⟩
theorem parts_nodes {t u : Tm} (h : u ∈ t.parts) : u.nodes + 1 ≤ t.nodes := by
  have := sumN_parts t
  have := sumN_mem _ _ h
  omega
theorem paired_get {α β : Type} {R : α → β → Prop} {a : List α} {b : List β} (h : Paired R a b) {i : Nat} {x : α} (hx : a[i]? = some x) : ∃ y, b[i]? = some y ∧ R x y := by
  induction h generalizing i with
  | nil => simp at hx
  | cons r q ih =>
    cases i with
    | zero => simp at hx; subst hx; exact ⟨_, rfl, r⟩
    | succ i => exact ih hx
def Tm.isThn : Tm → Bool | .thn _ _ => true | _ => false
theorem word_then (t : Tm) : decide (V.str t.word = V.str "then") = t.isThn := by
  cases t with
  | one w t => 
    cases w with
    | no => exact (by decide +kernel : decide (V.str ("not" : Str) = V.str ("then" : Str)) = false)
    | twice => exact (by decide +kernel : decide (V.str ("twice" : Str) = V.str ("then" : Str)) = false)
    | half => exact (by decide +kernel : decide (V.str ("half" : Str) = V.str ("then" : Str)) = false)
    | change => exact (by decide +kernel : decide (V.str ("change" : Str) = V.str ("then" : Str)) = false)
    | count => exact (by decide +kernel : decide (V.str ("count" : Str) = V.str ("then" : Str)) = false)
  | inn => exact (by decide +kernel : decide (V.str ("in" : Str) = V.str ("then" : Str)) = false)
  | late _ _ => exact (by decide +kernel : decide (V.str ("late" : Str) = V.str ("then" : Str)) = false)
  | byy _ _ _ _ _ _ => exact (by decide +kernel : decide (V.str ("by" : Str) = V.str ("then" : Str)) = false)
  | keep _ _ => exact (by decide +kernel : decide (V.str ("keep" : Str) = V.str ("then" : Str)) = false)
  | thn _ _ => exact (by decide +kernel : decide (V.str ("then" : Str) = V.str ("then" : Str)) = true)
theorem at0 {α : Type} {x : α} {xs : List α} : atI (x :: xs) 0 = some x := by
  unfold atI ixN
  simp
section
variable {P : Program} {w : World} {K : PySem.W.Frag} {mg : Str → Option Value} {base : Heap} {aS a1 a2 : Addr} {f : Addr} {fd : FuncData}
abbrev s_flow_by : Stmt := top 36
abbrev N_flow_by : List Str := ["term", "stream", "found", "flows", "part"]
theorem sc_flow_by : FnScope N_flow_by ["term", "stream"] (defScope s_flow_by) := ⟨rfl, rfl, rfl, by decide +kernel, rfl, by decide +kernel, by decide +kernel⟩
theorem step_flow_by {n : Nat} (F : Fun K "flow_by" "flow_by" s_flow_by f fd) (T : Txt K mg aS a1 a2) (c_parts_of : C8.Cal P w K mg base 1 "parts_of" spPartsOf []) (c_of_one : C8.Cal P w K mg base 2 "of_one" spOfOne []) (c_of_two : C8.Cal P w K mg base 1 "of_two" spOfTwo []) (c_flow_by : C8.Cal P w K mg base (n + 3) "flow_by" (spFlowBy n) []) : FnOk P w K mg base CX0 (n + 4) f fd ["term", "stream"] (spFlowBy (n + 1)) := by
  refine F.ok sc_flow_by (fun vs H Q E h => ?_) (fun cdv A outer s H vs Q E hr h => ?_)
  · obtain ⟨b, t, bs, rfl, _⟩ := h
    rfl
  obtain ⟨v, t, bs, rfl, ta, hn, h9, hb, q⟩ := h
  refine ⟨_, (pss_cons (ps_if (pt_cmpR (kEqD K rfl hr.units) (pv 0) (C8.pe_gc rfl T.g_IN) (nomark _))
        (pss_one (ps_ret (pv 1)))
        pss_nil)
        (pss_cons (ps_if (pt_cmpR op_eq (pe_ix (kIxT K rfl) (pv 0) pe_int (fun _ _ => rfl)) (C8.pe_gc rfl T.g_THEN) (nomark _))
        (pss_one (ps_set (i := 2) sc_flow_by.nd rfl (Or.inl rfl) (C8.pe_c c_flow_by hr (by omega) rfl (pa_cons (pe_ix (kIxT K rfl) (pv 0) pe_int (fun _ _ => rfl)) (pa_cons (C8.pe_c c_flow_by hr (by omega) rfl (pa_cons (pe_ix (kIxT K rfl) (pv 0) pe_int (fun _ _ => rfl)) (pa_cons (pv 1) pa_nil))) pa_nil)))))
        (pss_cons (ps_setLc (i := 3) (own := [("part", 4)]) rfl sc_flow_by.nd rfl rfl (sw_true rfl rfl rfl (by decide +kernel)) (kTup K rfl (C8.pe_c c_parts_of hr (by omega) rfl (pa_cons (pv 0) pa_nil))) (blkOk_by (N := N_flow_by) (sc := defScope s_flow_by) (by decide +kernel)) (fun _ _ _ _ _ => (pg_name (i := 4) sc_flow_by.nd rfl (Or.inl rfl))) (fun _ _ _ _ _ => pts_nil) (fun _ _ _ _ _ => (C8.pe_c c_flow_by hr (by omega) rfl (pa_cons (pv 4) (pa_cons (pv 1) pa_nil)))))
        (pss_one (ps_set (i := 2) sc_flow_by.nd rfl (Or.inl rfl) (pe_ifExp (pt_cmpR op_eq (pe_callB (kLen K rfl) rfl T.b_len bt_len (pa_cons (pv 3) pa_nil)) pe_int (nomark _)) (C8.pe_c c_of_one hr (by omega) rfl (pa_cons (pv 0) (pa_cons (pe_ix (kIxL K rfl) (pv 3) pe_int (fun _ _ => rfl)) pa_nil))) (C8.pe_c c_of_two hr (by omega) rfl (pa_cons (pv 0) (pa_cons (pe_ix (kIxL K rfl) (pv 3) pe_int (fun _ _ => rfl)) (pa_cons (pe_ix (kIxL K rfl) (pv 3) pe_int (fun _ _ => rfl)) pa_nil)))))))))
        (pss_cons (ps_if (pt_cmpR op_gt (pe_callB call_len_str rfl T.b_len bt_len (pa_cons (pv 2) pa_nil)) (C8.pe_gc rfl T.g_MOST_SIGNS) (nomark _))
        (pss_one ps_never)
        pss_nil)
        (pss_one (ps_ret (pv 2)))))), ?_⟩
  refine ⟨_, rfl, _, _, ta.dp, .str _, shp_tm (by omega), shp_in, _, rfl, ?_⟩
  rw [eqv_in]
  have h8 := flow_8000 hb
  have hs5 : (tx (flow t bs)).length ≤ sizeLine := by rw [tx_len]; exact small5 (by omega)
  cases hin : t.isIn with
  | true =>
    have e : t = .inn := by cases t <;> first | rfl | cases hin
    subst e
    exact iteT ⟨_, rfl, q _ (Same.refl _)⟩
  | false =>
    refine iteF ?_
    obtain ⟨a, us, rfl, ha, hpa⟩ := ta.node hin
    refine ⟨_, rfl, _, _, _, _, rfl, rfl, SqT.of ha, at0, rfl, _, rfl, ?_⟩
    rw [word_then]
    cases hth : t.isThn with
    | true =>
      refine iteT ?_
      cases t with
      | thn t u =>
        cases hpa with
        | @cons x1 _ _ _ r1 q1 =>
        cases q1 with
        | @cons x2 _ _ _ r2 q2 =>
        cases q2 with
        | nil =>
        have hnd : (Tm.thn t u).nodes = t.nodes + u.nodes + 1 := rfl
        have h8 : (flow u (flow t bs)).length ≤ 8000 := h8
        have hnn : t.nodes + u.nodes + 1 ≤ 9 := h9
        have hnn' : t.nodes + u.nodes + 1 ≤ n + 1 := hn
        have := t.nodes_pos
        have := u.nodes_pos
        refine ⟨_, rfl, _, _, _, _, rfl, rfl, SqT.of ha, rfl, _, rfl, _, _, _, _, rfl, rfl, SqT.of ha, rfl, _, rfl, _, t, bs, rfl, r1, by omega, by omega, pow_le (by omega) hb, fun H1 s1 => ?_⟩
        refine ⟨_, u, flow t bs, rfl, r2.keep (Tups.of s1), by omega, by omega, thn_le hb, fun H2 s2 => ?_⟩
        exact ⟨_, rfl, _, rfl, hs5, _, _, rfl, rfl, _, rfl, iteFd (by rw [tx_len]; simp; omega) ⟨_, rfl, q _ (s1.trans' s2)⟩⟩
      | _ => cases hth
    | false =>
      have hw : t.word ≠ "then" := by
        intro z
        have y := word_then t
        rw [z, hth] at y
        simp at y
      refine iteF ?_
      refine ⟨_, rfl, _, t, rfl, ta, Nat.le_trans t.dep_le (by omega), fun H1 p ws s1 hp1 pr1 => ?_⟩
      have hwl := paired_len pr1
      refine ⟨_, rfl, ⟨_, SqT.of hp1⟩, fun D hD => lc_it walk_tup (fun i H' => Same H1 H' ∧ H' D = some (.lst ((t.parts.take i).map fun u => V.str (tx (flow u bs))))) ⟨same_new hD _, upd_same⟩ (fun i H' _ z => SqT.of (z.1 _ _ hp1)) ?_ ?_⟩
      · rintro i x H2 H3 hi ⟨sm, hd⟩ ⟨rfl, hx⟩
        obtain ⟨u, hu, hxu⟩ := paired_get pr1 hx
        have hum := List.mem_of_getElem? hu
        have hun := parts_nodes hum
        refine ⟨rfl, tyI ⟨_, rfl, _, rfl, _, u, bs, rfl, hxu.keep (Tups.of sm), by omega, by omega, pow_le (by omega) hb, fun H4 s4 => ?_⟩⟩
        have hil := lt_len hu
        have := sumN_len t.parts
        have := sumN_parts t
        refine ⟨_, s4 _ _ hd, take_len_le _ _ _ (by omega), same_at (sm.trans' s4) hD, ?_⟩
        rw [upd_same, ← take_one _ hu]
      · rintro H2 ⟨sm, hd⟩
        rw [hwl, List.take_of_length_le (Nat.le_refl _)] at hd
        have tk := (ta.keep (Tups.of (s1.trans' sm)))
        refine ⟨_, rfl, _, _, rfl, .inl (SqL.of hd), rfl, _, rfl, ?_⟩
        rcases parts_two t hin with ⟨u, hu⟩ | ⟨u, u', hu⟩
        · have hun := parts_nodes (show u ∈ t.parts by rw [hu]; simp)
          have hu8 : (flow u bs).length ≤ 8000 := flow_8000 (pow_le (by omega) hb)
          rw [hu] at hd ⊢
          refine iteTd (by rw [dec_int]; rfl) ?_
          refine ⟨_, rfl, _, rfl, _, _, _, _, rfl, rfl, SqL.of hd, rfl, _, t, flow u bs, rfl, tk, by rw [hu]; rfl, by omega, fun H3 s3 => ?_⟩
          rw [← flow_op1 t bs u hu]
          exact ⟨_, rfl, _, rfl, hs5, _, _, rfl, rfl, _, rfl, iteFd (by rw [tx_len]; simp; omega) ⟨_, rfl, q _ ((s1.trans' sm).trans' s3)⟩⟩
        · have hun := parts_nodes (show u ∈ t.parts by rw [hu]; simp)
          have hu8 : (flow u bs).length ≤ 8000 := flow_8000 (pow_le (by omega) hb)
          rw [hu] at hd ⊢
          refine iteFd (by rw [dec_int]; rfl) ?_
          refine ⟨_, rfl, _, rfl, _, _, _, _, rfl, rfl, SqL.of hd, rfl, _, rfl, _, _, _, _, rfl, rfl, SqL.of hd, rfl, _, t, flow u bs, flow u' bs, rfl, tk, by rw [hu]; rfl, hw, by omega, fun H3 s3 => ?_⟩
          rw [← flow_op2 t bs u u' hu hw]
          exact ⟨_, rfl, _, rfl, hs5, _, _, rfl, rfl, _, rfl, iteFd (by rw [tx_len]; simp; omega) ⟨_, rfl, q _ ((s1.trans' sm).trans' s3)⟩⟩
theorem ok_flow_by (F : Fun K "flow_by" "flow_by" s_flow_by f fd) (T : Txt K mg aS a1 a2) (hm : mg "flow_by" = some (.ref f)) (hk : PySem.W.keepIn K (.ref f) = true) (hb : Binds K fd ["term", "stream"] []) (c_parts_of : C8.Cal P w K mg base 1 "parts_of" spPartsOf []) (c_of_one : C8.Cal P w K mg base 2 "of_one" spOfOne []) (c_of_two : C8.Cal P w K mg base 1 "of_two" spOfTwo []) : ∀ n, C8.Cal P w K mg base (n + 3) "flow_by" (spFlowBy n) []
  | 0 => ⟨f, fd, _, [], ⟨by rintro vs H Q E ⟨b, t, bs, rfl, _⟩; rfl, by
      rintro A outer s H args us vs Q E hr e0 hb r ⟨b, t, bs, rfl, _, hn, _⟩
      have := t.nodes_pos
      omega⟩, hm, hk, hb, .nil⟩
  | n + 1 => ⟨f, fd, _, [], step_flow_by F T c_parts_of c_of_one c_of_two (ok_flow_by F T hm hk hb c_parts_of c_of_one c_of_two n), hm, hk, hb, .nil⟩
abbrev s_flow_of : Stmt := top 37
abbrev N_flow_of : List Str := ["term", "stream"]
theorem sc_flow_of : FnScope N_flow_of ["term", "stream"] (defScope s_flow_of) := ⟨rfl, rfl, rfl, by decide +kernel, rfl, by decide +kernel, by decide +kernel⟩
theorem ok_flow_of (F : Fun K "flow_of" "flow_of" s_flow_of f fd) (T : Txt K mg aS a1 a2) (c_want_term : C8.Cal P w K mg base 4 "want_term" spWantTerm []) (c_want_stream : C8.Cal P w K mg base 3 "want_stream" spWantStream []) (c_flow_by : C8.Cal P w K mg base 12 "flow_by" (spFlowBy 9) []) : FnOk P w K mg base CX0 13 f fd ["term", "stream"] spFlowOf := by
  refine F.ok sc_flow_of (fun vs H Q E h => ?_) (fun cdv A outer s H vs Q E hr h => ?_)
  · obtain ⟨b, t, bs, rfl, _⟩ := h
    rfl
  obtain ⟨v, t, bs, rfl, ta, h9, hl, hb, q⟩ := h
  refine ⟨_, (pss_cons (ps_expr (C8.pe_c c_want_term hr (by decide) rfl (pa_cons (pv 0) pa_nil)))
        (pss_cons (ps_expr (C8.pe_c c_want_stream hr (by decide) rfl (pa_cons (pv 1) pa_nil)))
        (pss_one (ps_ret (C8.pe_c c_flow_by hr (by decide) rfl (pa_cons (pv 0) (pa_cons (pv 1) pa_nil))))))), ?_⟩
  refine ⟨_, rfl, _, t, rfl, ta, h9, fun H1 s1 => ⟨_, rfl, bs, rfl, hl, fun H2 s2 => ?_⟩⟩
  exact ⟨_, rfl, _, rfl, _, t, bs, rfl, ta.keep (Tups.of (s1.trans' s2)), h9, h9, hb, fun H3 s3 => q _ ((s1.trans' s2).trans' s3)⟩
end
end FY


set_option Elab.async false
set_option linter.all false
set_option maxRecDepth 100000
set_option maxHeartbeats 4000000
namespace FY
open PySem L2 FYR
theorem hu1 {k : Nat} {A : Around} (r : Room k A) : A.units + 1 < cLine := by have := r.units; omega
theorem sg_ne' (x y : Bool) : (!decide (V.str ⟨#[cd x]⟩ = V.str (sgn y))) = (x != y) := sg_ne x y
theorem upd_upd {H : Hp} {p : Addr} {o o' : HO} : upd (upd H p o) p o' = upd H p o' := by
  funext b
  by_cases h : b = p
  · rw [h, upd_same, upd_same]
  · rw [upd_ne h, upd_ne h, upd_ne h]
section
variable {P : Program} {w : World} {K : PySem.W.Frag} {mg : Str → Option Value} {base : Heap} {aS a1 a2 : Addr} {f : Addr} {fd : FuncData}
abbrev s_law_single : Stmt := top 48
abbrev N_law_single : List Str := ["_law_term_here", "_law_flow_here", "_law_found", "_law_last", "_law_sign", "_law_told"]
theorem sc_law_single : FnScope N_law_single ["_law_term_here", "_law_flow_here"] (defScope s_law_single) := ⟨rfl, rfl, rfl, by decide +kernel, rfl, by decide +kernel, by decide +kernel⟩
theorem ok_law_single (F : Fun K "_law_single" "_law_single" s_law_single f fd) (T : Txt K mg aS a1 a2) : FnOk P w K mg base CX0 1 f fd ["_law_term_here", "_law_flow_here"] spOfOne := by
  refine F.ok sc_law_single (fun vs H Q E h => ?_) (fun cdv A outer s H vs Q E hr h => ?_)
  · obtain ⟨b, t, bs, rfl, _⟩ := h
    rfl
  obtain ⟨v, t, bs, rfl, ta, hp, hl, q⟩ := h
  refine ⟨_, (pss_cons (ps_if (pt_cmpR op_eq (pe_ix (kIxT K rfl) (pv 0) pe_int (fun _ _ => rfl)) pe_str (nomark _))
        (pss_one (ps_ret (kJoin K rfl pe_str (pe_lc (own := [("_law_sign", 4)]) rfl sc_law_single.nd (pi_str (pv 1)) (blkOk_by (N := N_law_single) (sc := defScope s_law_single) (by decide +kernel)) (fun _ _ _ _ _ => (pg_name (i := 4) sc_law_single.nd rfl (Or.inl rfl))) (fun _ _ _ _ _ => pts_nil) (fun _ _ _ _ _ => (pe_dget (hu1 hr) (pe_disp (pps_cons pe_str pe_str (pps_cons pe_str pe_str pps_nil)) rfl rfl (by decide) (by decide)) (pv 4) (fun _ _ => rfl)))))))
        pss_nil)
        (pss_cons (ps_if (pt_cmpR op_eq (pe_ix (kIxT K rfl) (pv 0) pe_int (fun _ _ => rfl)) pe_str (nomark _))
        (pss_one (ps_ret (pe_slice sl_str (pe_op op_add_str (pe_ix (kIxT K rfl) (pv 0) pe_int (fun _ _ => rfl)) (pv 1)) po_none (po_some (pe_callB call_len_str rfl T.b_len bt_len (pa_cons (pv 1) pa_nil))))))
        pss_nil)
        (pss_cons (ps_if (pt_cmpR op_eq (pe_ix (kIxT K rfl) (pv 0) pe_int (fun _ _ => rfl)) pe_str (nomark _))
        (pss_one (ps_ret (kJoin K rfl pe_str (pe_lc (own := [("_law_sign", 4)]) rfl sc_law_single.nd (pi_str (pv 1)) (blkOk_by (N := N_law_single) (sc := defScope s_law_single) (by decide +kernel)) (fun _ _ _ _ _ => (pg_name (i := 4) sc_law_single.nd rfl (Or.inl rfl))) (fun _ _ _ _ _ => pts_nil) (fun _ _ _ _ _ => (pe_op op_add_str (pv 4) (pv 4)))))))
        pss_nil)
        (pss_cons (ps_if (pt_cmpR op_eq (pe_ix (kIxT K rfl) (pv 0) pe_int (fun _ _ => rfl)) pe_str (nomark _))
        (pss_one (ps_ret (pe_stepS (pv 1) (po_some pe_int) po_none (po_some pe_int))))
        pss_nil)
        (pss_cons (ps_par (i := 2) (j := 3) rfl sc_law_single.nd rfl rfl (by decide) rfl rfl (pa_cons (pe_lst pa_nil) (pa_cons pe_str pa_nil)) rfl)
        (pss_cons (ps_for PassesOwn.never rfl (pi_str (pv 1)) (pg_name (i := 4) sc_law_single.nd rfl (Or.inl rfl))
        (pss_cons (ps_set (i := 5) sc_law_single.nd rfl (Or.inl rfl) (pe_ifExp (pt_cmpR op_ne (pv 4) (pv 3) (nomark _)) pe_str pe_str))
        (pss_cons (ps_expr (kBm K rfl PySem.F.plainAttrs_list PySem.F.slot_list_append PySem.F.type_list_append mt_append (pv 2) (pa_cons (pv 5) pa_nil)))
        (pss_one (ps_set (i := 3) sc_law_single.nd rfl (Or.inl rfl) (pe_ifExp (pt_cmpR op_eq (pe_ix (kIxT K rfl) (pv 0) pe_int (fun _ _ => rfl)) pe_str (nomark _)) (pv 4) (pv 5)))))))
        (pss_one (ps_ret (kJoin K rfl pe_str (pv 2)))))))))), ?_⟩
  cases t with
  | inn => cases hp
  | byy _ _ _ _ _ _ => cases hp
  | keep _ _ => cases hp
  | thn _ _ => cases hp
  | late b t =>
    obtain ⟨a, x, rfl, h, r⟩ := ta
    refine ⟨_, rfl, _, _, _, _, rfl, rfl, SqT.of h, rfl, rfl, _, rfl, iteFd (by decide +kernel) ?_⟩
    refine ⟨_, rfl, _, _, _, _, rfl, rfl, SqT.of h, rfl, rfl, _, rfl, iteTd (by decide +kernel) ?_⟩
    refine ⟨_, rfl, _, _, _, _, rfl, rfl, SqT.of h, rfl, _, rfl, _, _, rfl, rfl, ?_, _, rfl, _, rfl, by rw [tx_len]; exact small5 (by omega), _, rfl, _, rfl, ?_, ?_⟩
    · rw [tx_len]; exact small5 (show 1 + bs.length ≤ 100000 by omega)
    · rw [sgn_tx, tx_app, tx_len]; exact small5 (by simp; omega)
    rw [sgn_tx, tx_app, tx_len, cut_to]
    exact q _ (Same.refl _)
  | one w t =>
    obtain ⟨a, x, rfl, h, r⟩ := ta
    cases w with
    | no =>
      refine ⟨_, rfl, _, _, _, _, rfl, rfl, SqT.of h, rfl, rfl, _, rfl, iteTd (by decide +kernel) ?_⟩
      refine ⟨⟨_, rfl⟩, _, rfl, _, rfl, fun D hD => lc_it walk_str (fun i H' => Same H H' ∧ H' D = some (.lst (((bs.map (!·)).take i).map vs))) ⟨same_new hD _, upd_same⟩ (fun _ _ _ _ => trivial) ?_ ?_⟩
      · rintro i x H1 H2 hi ⟨sm, hd⟩ ⟨rfl, c, hc, rfl⟩
        obtain ⟨x, hx, rfl⟩ := tx_char hc
        have hil := lt_len hx
        refine ⟨rfl, tyI fun p hp0 => ⟨upd_same, [(.inr "0", .str "1"), (.inr "1", .str "0")], rfl, by decide, _, rfl, _, .str (sgn (!x)), rfl, .inl ⟨_, .inr (sgn x), .inl upd_same, rfl, ?_⟩, ?_⟩⟩
        · cases x <;> decide +kernel
        have hDp : D ≠ p := fun z => by rw [z, hp0] at hd; cases hd
        rw [upd_upd]
        refine ⟨_, (upd_ne hDp).trans hd, take_len_le _ _ _ (by omega), same_at (sm.trans' (same_new hp0 _)) hD, ?_⟩
        rw [upd_same, ← take_one _ (show (bs.map (!·))[i]? = some (!x) by simp [hx])]
      · rintro H1 ⟨sm, hd⟩
        rw [tx_size, List.take_of_length_le (by simp)] at hd
        exact joinEnd hd (by simp; omega) (q _ sm)
    | twice =>
      refine ⟨_, rfl, _, _, _, _, rfl, rfl, SqT.of h, rfl, rfl, _, rfl, iteFd (by decide +kernel) ?_⟩
      refine ⟨_, rfl, _, _, _, _, rfl, rfl, SqT.of h, rfl, rfl, _, rfl, iteFd (by decide +kernel) ?_⟩
      refine ⟨_, rfl, _, _, _, _, rfl, rfl, SqT.of h, rfl, rfl, _, rfl, iteTd (by decide +kernel) ?_⟩
      refine ⟨⟨_, rfl⟩, _, rfl, _, rfl, fun D hD => lc_it walk_str (fun i H' => Same H H' ∧ H' D = some (.lst (((bs.map fun b => [b, b]).take i).map fun y => V.str (tx y)))) ⟨same_new hD _, upd_same⟩ (fun _ _ _ _ => trivial) ?_ ?_⟩
      · rintro i x H1 H2 hi ⟨sm, hd⟩ ⟨rfl, c, hc, rfl⟩
        obtain ⟨x, hx, rfl⟩ := tx_char hc
        have hil := lt_len hx
        refine ⟨rfl, tyI ⟨_, rfl, _, rfl, _, _, rfl, rfl, ?_, _, hd, take_len_le _ _ _ (by omega), same_at sm hD, ?_⟩⟩
        · exact small5 (show 1 + 1 ≤ 100000 by decide)
        rw [upd_same, ← take_one _ (show (bs.map fun b => [b, b])[i]? = some [x, x] by simp [hx])]
        rw [show (({ cps := #[cd x] } : Str) ++ ({ cps := #[cd x] } : Str)) = tx [x, x] from tx_app [x] [x]]
      · rintro H1 ⟨sm, hd⟩
        rw [tx_size, List.take_of_length_le (by simp)] at hd
        refine joinEndL hd (by rw [flat_dbl, dblL_len]; omega) ?_
        rw [flat_dbl]
        exact q _ sm
    | half =>
      refine ⟨_, rfl, _, _, _, _, rfl, rfl, SqT.of h, rfl, rfl, _, rfl, iteFd (by decide +kernel) ?_⟩
      refine ⟨_, rfl, _, _, _, _, rfl, rfl, SqT.of h, rfl, rfl, _, rfl, iteFd (by decide +kernel) ?_⟩
      refine ⟨_, rfl, _, _, _, _, rfl, rfl, SqT.of h, rfl, rfl, _, rfl, iteFd (by decide +kernel) ?_⟩
      refine ⟨_, rfl, _, _, _, _, rfl, rfl, SqT.of h, rfl, rfl, _, rfl, iteTd (by decide +kernel) ?_⟩
      refine ⟨_, rfl, _, rfl, _, rfl, _, _, rfl, rfl, by decide, by rw [tx_len]; exact small5 (by omega), ?_⟩
      rw [step_tx]
      exact q _ (Same.refl _)
    | change =>
      refine ⟨_, rfl, _, _, _, _, rfl, rfl, SqT.of h, rfl, rfl, _, rfl, iteFd (by decide +kernel) ?_⟩
      refine ⟨_, rfl, _, _, _, _, rfl, rfl, SqT.of h, rfl, rfl, _, rfl, iteFd (by decide +kernel) ?_⟩
      refine ⟨_, rfl, _, _, _, _, rfl, rfl, SqT.of h, rfl, rfl, _, rfl, iteFd (by decide +kernel) ?_⟩
      refine ⟨_, rfl, _, _, _, _, rfl, rfl, SqT.of h, rfl, rfl, _, rfl, iteFd (by decide +kernel) ?_⟩
      refine ⟨Nat.zero_le _, fun L hL => ⟨_, _, rfl, _, rfl, _, rfl, for_it walk_str (fun i σ H' => ∃ (y : Bool) (z z' : Option V), σ = [some (.ref a), some (.str (tx bs)), some (.ref L), some (.str (sgn y)), z, z'] ∧ (false :: bs)[i]? = some y ∧ H' L = some (.lst (((chgL false bs).take i).map vs)) ∧ Same H H') ⟨false, _, _, by rw [← s0]; rfl, rfl, upd_same, same_new hL _⟩ (fun _ _ _ _ _ => trivial) ?_ ?_⟩⟩
      · rintro i x σ H1 H2 hi ⟨y, z, z', rfl, hy, hd, sm⟩ ⟨rfl, c, hc, rfl⟩
        obtain ⟨x, hx, rfl⟩ := tx_char hc
        have hg := chg_get bs false i x y hx hy
        have hil := lt_len hx
        have h2 := sm _ _ h
        refine ⟨_, rfl, _, rfl, rfl, _, rfl, ?_⟩
        rw [sg_ne']
        cases hxy : (x != y) with
        | true =>
          rw [hxy] at hg
          refine iteT ?_
          rw [s1]
          refine ⟨_, rfl, .inl ⟨rfl, _, SqL.of hd⟩, _, rfl, _, _, _, rfl, rfl, hd, take_len_le _ _ _ (by omega), ?_⟩
          refine ⟨_, rfl, _, _, _, _, rfl, rfl, SqT.of (same_at sm hL _ _ h), rfl, rfl, _, rfl, iteTd (by decide +kernel) ⟨_, rfl, ?_⟩⟩
          refine ⟨x, _, _, rfl, by rw [List.getElem?_cons_succ]; exact hx, ?_, same_at sm hL⟩
          rw [upd_same, ← take_one _ hg]
        | false =>
          rw [hxy] at hg
          refine iteF ?_
          rw [s0]
          refine ⟨_, rfl, .inl ⟨rfl, _, SqL.of hd⟩, _, rfl, _, _, _, rfl, rfl, hd, take_len_le _ _ _ (by omega), ?_⟩
          refine ⟨_, rfl, _, _, _, _, rfl, rfl, SqT.of (same_at sm hL _ _ h), rfl, rfl, _, rfl, iteTd (by decide +kernel) ⟨_, rfl, ?_⟩⟩
          refine ⟨x, _, _, rfl, by rw [List.getElem?_cons_succ]; exact hx, ?_, same_at sm hL⟩
          rw [upd_same, ← take_one _ hg]
      · rintro σ H1 ⟨y, z, z', rfl, hy, hd, sm⟩
        rw [tx_size, List.take_of_length_le (by rw [chgL_len]; omega)] at hd
        refine ⟨⟨_, rfl⟩, _, rfl, ?_⟩
        exact joinEnd hd (by rw [chgL_len]; omega) (q _ sm)
    | count =>
      refine ⟨_, rfl, _, _, _, _, rfl, rfl, SqT.of h, rfl, rfl, _, rfl, iteFd (by decide +kernel) ?_⟩
      refine ⟨_, rfl, _, _, _, _, rfl, rfl, SqT.of h, rfl, rfl, _, rfl, iteFd (by decide +kernel) ?_⟩
      refine ⟨_, rfl, _, _, _, _, rfl, rfl, SqT.of h, rfl, rfl, _, rfl, iteFd (by decide +kernel) ?_⟩
      refine ⟨_, rfl, _, _, _, _, rfl, rfl, SqT.of h, rfl, rfl, _, rfl, iteFd (by decide +kernel) ?_⟩
      refine ⟨Nat.zero_le _, fun L hL => ⟨_, _, rfl, _, rfl, _, rfl, for_it walk_str (fun i σ H' => ∃ (y : Bool) (z z' : Option V), σ = [some (.ref a), some (.str (tx bs)), some (.ref L), some (.str (sgn y)), z, z'] ∧ (false :: cntL false bs)[i]? = some y ∧ H' L = some (.lst (((cntL false bs).take i).map vs)) ∧ Same H H') ⟨false, _, _, by rw [← s0]; rfl, rfl, upd_same, same_new hL _⟩ (fun _ _ _ _ _ => trivial) ?_ ?_⟩⟩
      · rintro i x σ H1 H2 hi ⟨y, z, z', rfl, hy, hd, sm⟩ ⟨rfl, c, hc, rfl⟩
        obtain ⟨x, hx, rfl⟩ := tx_char hc
        have hg := cnt_get bs false i x y hx hy
        have hil := lt_len hx
        have h2 := sm _ _ h
        refine ⟨_, rfl, _, rfl, rfl, _, rfl, ?_⟩
        rw [sg_ne']
        cases hxy : (x != y) with
        | true =>
          rw [hxy] at hg
          refine iteT ?_
          rw [s1]
          refine ⟨_, rfl, .inl ⟨rfl, _, SqL.of hd⟩, _, rfl, _, _, _, rfl, rfl, hd, take_len_le _ _ _ (by omega), ?_⟩
          refine ⟨_, rfl, _, _, _, _, rfl, rfl, SqT.of (same_at sm hL _ _ h), rfl, rfl, _, rfl, iteFd (by decide +kernel) ⟨_, rfl, ?_⟩⟩
          refine ⟨true, _, _, rfl, by rw [List.getElem?_cons_succ]; exact hg, ?_, same_at sm hL⟩
          rw [upd_same, ← take_one _ hg]
        | false =>
          rw [hxy] at hg
          refine iteF ?_
          rw [s0]
          refine ⟨_, rfl, .inl ⟨rfl, _, SqL.of hd⟩, _, rfl, _, _, _, rfl, rfl, hd, take_len_le _ _ _ (by omega), ?_⟩
          refine ⟨_, rfl, _, _, _, _, rfl, rfl, SqT.of (same_at sm hL _ _ h), rfl, rfl, _, rfl, iteFd (by decide +kernel) ⟨_, rfl, ?_⟩⟩
          refine ⟨false, _, _, rfl, by rw [List.getElem?_cons_succ]; exact hg, ?_, same_at sm hL⟩
          rw [upd_same, ← take_one _ hg]
      · rintro σ H1 ⟨y, z, z', rfl, hy, hd, sm⟩
        rw [tx_size, List.take_of_length_le (by rw [cntL_len]; omega)] at hd
        refine ⟨⟨_, rfl⟩, _, rfl, ?_⟩
        exact joinEnd hd (by rw [cntL_len]; omega) (q _ sm)
end
end FY


set_option Elab.async false
set_option linter.all false
set_option maxRecDepth 100000
set_option maxHeartbeats 4000000
namespace FY
open PySem L2 FYR
def spFlowL (n : Nat) : Sp := fun vs H Q _ => ∃ v t bs, vs = [v, .str (tx bs)] ∧ TA H v t ∧ t.nodes ≤ n ∧ t.nodes ≤ 40 ∧ 2 ^ (t.nodes - 1) * bs.length ≤ 40000 ∧ ∀ H', Same H H' → Q (.str (tx (flow t bs))) H'
theorem powL {a b n : Nat} (h : a ≤ b) (hb : 2 ^ b * n ≤ 40000) : 2 ^ a * n ≤ 40000 := Nat.le_trans (Nat.mul_le_mul_right n (Nat.pow_le_pow_right (by decide) h)) hb
theorem thnL {t u : Tm} {bs : List Bool} (hb : 2 ^ (t.nodes + u.nodes + 1 - 1) * bs.length ≤ 40000) : 2 ^ (u.nodes - 1) * (flow t bs).length ≤ 40000 := by
  have h1 := flow_len t bs
  have h3 := t.nodes_pos
  have h4 := u.nodes_pos
  have e1 := Nat.mul_le_mul_left (2 ^ (u.nodes - 1)) h1
  rw [← Nat.mul_assoc, ← Nat.pow_add] at e1
  exact Nat.le_trans e1 (powL (by omega) hb)
theorem flowL {t : Tm} {bs : List Bool} (hb : 2 ^ (t.nodes - 1) * bs.length ≤ 40000) : (flow t bs).length ≤ 40000 := Nat.le_trans (flow_len t bs) hb
theorem sz2 {a b : V} : [a, b].length ≤ sizeLine := (by decide : 2 ≤ sizeLine)
theorem oNw (w : W1) : (if true = true then !inV (.str w.s) [.str "by", .str "keep"] else inV (.str w.s) [.str "by", .str "keep"]) = true := by cases w <;> decide +kernel
theorem oNl : (if true = true then !inV (.str "late") [.str "by", .str "keep"] else inV (.str "late") [.str "by", .str "keep"]) = true := by decide +kernel
theorem oNb : (if true = true then !inV (.str "by") [.str "by", .str "keep"] else inV (.str "by") [.str "by", .str "keep"]) = false := by decide +kernel
theorem oNk : (if true = true then !inV (.str "keep") [.str "by", .str "keep"] else inV (.str "keep") [.str "by", .str "keep"]) = false := by decide +kernel
theorem _root_.List.getElem?_map_some {α β : Type} {f : α → β} {l : List α} {i : Nat} {y : β} (h : (l.map f)[i]? = some y) : ∃ x, l[i]? = some x ∧ y = f x := by
  rw [List.getElem?_map] at h
  obtain ⟨x, hx, rfl⟩ := Option.map_eq_some_iff.mp h
  exact ⟨x, hx, rfl⟩
theorem zipV_get {f g : List Bool} {i : Nat} {q : V × V} (h : (zipV (tx f) (tx g))[i]? = some q) : ∃ x y, f[i]? = some x ∧ g[i]? = some y ∧ q = (.str ⟨#[cd x]⟩, .str ⟨#[cd y]⟩) := by
  unfold zipV at h
  obtain ⟨p, hp, rfl⟩ := List.getElem?_map_some h
  rw [tx_toList, tx_toList, List.getElem?_zip_eq_some] at hp
  obtain ⟨h1, h2⟩ := hp
  obtain ⟨x, hx, e1⟩ := List.getElem?_map_some h1
  obtain ⟨y, hy, e2⟩ := List.getElem?_map_some h2
  exact ⟨x, y, hx, hy, by rw [e1, e2]; rfl⟩
section
variable {P : Program} {w : World} {K : PySem.W.Frag} {mg : Str → Option Value} {base : Heap} {aS a1 a2 : Addr} {f : Addr} {fd : FuncData}
abbrev s_law_flow : Stmt := top 49
abbrev N_law_flow : List Str := ["_law_term_here", "_law_stream_here", "_law_pairs", "_law_sign", "_law_mark"]
theorem sc_law_flow : FnScope N_law_flow ["_law_term_here", "_law_stream_here"] (defScope s_law_flow) := ⟨rfl, rfl, rfl, by decide +kernel, rfl, by decide +kernel, by decide +kernel⟩
theorem step_law_flow {n : Nat} (F : Fun K "_law_flow" "_law_flow" s_law_flow f fd) (T : Txt K mg aS a1 a2) (c__law_single : C8.Cal P w K mg base 1 "_law_single" spOfOne []) (c__law_flow : C8.Cal P w K mg base (n + 3) "_law_flow" (spFlowL n) []) : FnOk P w K mg base CX0 (n + 4) f fd ["_law_term_here", "_law_stream_here"] (spFlowL (n + 1)) := by
  refine F.ok sc_law_flow (fun vs H Q E h => ?_) (fun cdv A outer s H vs Q E hr h => ?_)
  · obtain ⟨b, t, bs, rfl, _⟩ := h
    rfl
  obtain ⟨v, t, bs, rfl, ta, hn, h9, hb, q⟩ := h
  refine ⟨_, (pss_cons (ps_if (pt_cmpR (kEqD K rfl hr.units) (pv 0) pe_str (nomark _))
        (pss_one (ps_ret (pv 1)))
        pss_nil)
        (pss_cons (ps_if (pt_cmpR op_eq (pe_ix (kIxT K rfl) (pv 0) pe_int (fun _ _ => rfl)) pe_str (nomark _))
        (pss_one (ps_ret (C8.pe_c c__law_flow hr (by omega) rfl (pa_cons (pe_ix (kIxT K rfl) (pv 0) pe_int (fun _ _ => rfl)) (pa_cons (C8.pe_c c__law_flow hr (by omega) rfl (pa_cons (pe_ix (kIxT K rfl) (pv 0) pe_int (fun _ _ => rfl)) (pa_cons (pv 1) pa_nil))) pa_nil)))))
        pss_nil)
        (pss_cons (ps_if (pt_cmpR (kNotIn K rfl) (pe_ix (kIxT K rfl) (pv 0) pe_int (fun _ _ => rfl)) (pe_tup (pa_cons pe_str (pa_cons pe_str pa_nil))) rfl)
        (pss_one (ps_ret (C8.pe_c c__law_single hr (by omega) rfl (pa_cons (pv 0) (pa_cons (C8.pe_c c__law_flow hr (by omega) rfl (pa_cons (pe_ix (kIxT K rfl) (pv 0) (pe_un un_neg pe_int) (fun _ _ => rfl)) (pa_cons (pv 1) pa_nil))) pa_nil)))))
        pss_nil)
        (pss_cons (ps_set (i := 2) sc_law_flow.nd rfl (Or.inl rfl) (pe_listZip rfl (pa_cons (C8.pe_c c__law_flow hr (by omega) rfl (pa_cons (pe_ix (kIxT K rfl) (pv 0) (pe_un un_neg pe_int) (fun _ _ => rfl)) (pa_cons (pv 1) pa_nil))) (pa_cons (C8.pe_c c__law_flow hr (by omega) rfl (pa_cons (pe_ix (kIxT K rfl) (pv 0) (pe_un un_neg pe_int) (fun _ _ => rfl)) (pa_cons (pv 1) pa_nil))) pa_nil)) rfl T.b_list rfl T.b_zip))
        (pss_cons (ps_if (pt_cmpR op_eq (pe_ix (kIxT K rfl) (pv 0) pe_int (fun _ _ => rfl)) pe_str (nomark _))
        (pss_one (ps_ret (kJoin K rfl pe_str (pe_lc (own := [("_law_sign", 3), ("_law_mark", 4)]) rfl sc_law_flow.nd (kList K rfl (pv 2)) (blkOk_by (N := N_law_flow) (sc := defScope s_law_flow) (by decide +kernel)) (fun _ _ _ _ _ => (kTupG (n := 2) K rfl rfl (pgs_cons (pg_name (i := 3) sc_law_flow.nd rfl (Or.inl rfl)) (pgs_cons (pg_name (i := 4) sc_law_flow.nd rfl (Or.inl rfl)) pgs_nil)))) (fun _ _ _ _ _ => pts_one (pt_cmpR op_eq (pv 4) pe_str (nomark _))) (fun _ _ _ _ _ => (pv 3))))))
        pss_nil)
        (pss_one (ps_ret (kJoin K rfl pe_str (pe_lc (own := [("_law_sign", 3), ("_law_mark", 4)]) rfl sc_law_flow.nd (kList K rfl (pv 2)) (blkOk_by (N := N_law_flow) (sc := defScope s_law_flow) (by decide +kernel)) (fun _ _ _ _ _ => (kTupG (n := 2) K rfl rfl (pgs_cons (pg_name (i := 3) sc_law_flow.nd rfl (Or.inl rfl)) (pgs_cons (pg_name (i := 4) sc_law_flow.nd rfl (Or.inl rfl)) pgs_nil)))) (fun _ _ _ _ _ => pts_nil) (fun _ _ _ _ _ => (pe_ix ix_str (pe_ix (kIxT K rfl) (pv 0) pe_int (fun _ _ => rfl)) (pe_op op_add (pe_op op_mul pe_int (pe_callTy call_int_str rfl T.b_int bt_int (pa_cons (pv 3) pa_nil))) (pe_callTy call_int_str rfl T.b_int bt_int (pa_cons (pv 4) pa_nil))) (fun _ _ => rfl)))))))))))), ?_⟩
  refine ⟨_, rfl, _, _, ta.dp, .str _, shp_tm (by omega), shp_in, _, rfl, ?_⟩
  rw [eqv_in]
  have h8 := flowL hb
  have ta0 := ta
  cases t with
  | inn => exact iteT ⟨_, rfl, q _ (Same.refl _)⟩
  | thn t u =>
    obtain ⟨a, x, y, rfl, h, r, r'⟩ := ta
    have hnd : (Tm.thn t u).nodes = t.nodes + u.nodes + 1 := rfl
    have := t.nodes_pos
    have := u.nodes_pos
    refine iteF ?_
    refine ⟨_, rfl, _, _, _, _, rfl, rfl, SqT.of h, rfl, rfl, _, rfl, iteTd (by decide +kernel) ?_⟩
    refine ⟨_, rfl, _, _, _, _, rfl, rfl, SqT.of h, rfl, _, rfl, _, _, _, _, rfl, rfl, SqT.of h, rfl, _, rfl, _, t, bs, rfl, r, by omega, by omega, powL (by omega) hb, fun H1 s1 => ?_⟩
    exact ⟨_, u, flow t bs, rfl, r'.keep (Tups.of s1), by omega, by omega, thnL hb, fun H2 s2 => q _ (s1.trans' s2)⟩
  | one w t =>
    obtain ⟨a, x, rfl, h, r⟩ := ta
    have hnd : (Tm.one w t).nodes = t.nodes + 1 := rfl
    refine iteF ?_
    refine ⟨_, rfl, _, _, _, _, rfl, rfl, SqT.of h, rfl, rfl, _, rfl, iteFd (by cases w <;> decide +kernel) ?_⟩
    refine ⟨_, rfl, _, _, _, _, rfl, rfl, SqT.of h, rfl, sz2, fun p0 hp0 => ⟨_, _, rfl, .inr (SqT.of upd_same), rfl, rfl, _, rfl, iteTd (oNw w) ?_⟩⟩
    have k0 := same_new hp0 (.tup [.str "by", .str "keep"])
    have h0 := k0 _ _ h
    refine ⟨_, rfl, _, rfl, _, rfl, _, _, _, _, rfl, rfl, SqT.of h0, rfl, _, rfl, _, t, bs, rfl, r.keep (Tups.of k0), by omega, by omega, powL (by omega) hb, fun H1 s1 => ?_⟩
    have hu8 : (flow t bs).length ≤ 40000 := flowL (powL (by omega) hb)
    exact ⟨_, _, flow t bs, rfl, ta0.keep (Tups.of (k0.trans' s1)), rfl, by omega, fun H2 s2 => q _ ((k0.trans' s1).trans' s2)⟩
  | late b t =>
    obtain ⟨a, x, rfl, h, r⟩ := ta
    have hnd : (Tm.late b t).nodes = t.nodes + 1 := rfl
    refine iteF ?_
    refine ⟨_, rfl, _, _, _, _, rfl, rfl, SqT.of h, rfl, rfl, _, rfl, iteFd (by decide +kernel) ?_⟩
    refine ⟨_, rfl, _, _, _, _, rfl, rfl, SqT.of h, rfl, sz2, fun p0 hp0 => ⟨_, _, rfl, .inr (SqT.of upd_same), rfl, rfl, _, rfl, iteTd oNl ?_⟩⟩
    have k0 := same_new hp0 (.tup [.str "by", .str "keep"])
    have h0 := k0 _ _ h
    refine ⟨_, rfl, _, rfl, _, rfl, _, _, _, _, rfl, rfl, SqT.of h0, rfl, _, rfl, _, t, bs, rfl, r.keep (Tups.of k0), by omega, by omega, powL (by omega) hb, fun H1 s1 => ?_⟩
    have hu8 : (flow t bs).length ≤ 40000 := flowL (powL (by omega) hb)
    exact ⟨_, _, flow t bs, rfl, ta0.keep (Tups.of (k0.trans' s1)), rfl, by omega, fun H2 s2 => q _ ((k0.trans' s1).trans' s2)⟩
  | keep t u =>
    obtain ⟨a, x, y, rfl, h, r, r'⟩ := ta
    have hnd : (Tm.keep t u).nodes = t.nodes + u.nodes + 1 := rfl
    have := t.nodes_pos
    have := u.nodes_pos
    refine iteF ?_
    refine ⟨_, rfl, _, _, _, _, rfl, rfl, SqT.of h, rfl, rfl, _, rfl, iteFd (by decide +kernel) ?_⟩
    refine ⟨_, rfl, _, _, _, _, rfl, rfl, SqT.of h, rfl, sz2, fun p0 hp0 => ⟨_, _, rfl, .inr (SqT.of upd_same), rfl, rfl, _, rfl, iteFd oNk ?_⟩⟩
    have k0 := same_new hp0 (.tup [.str "by", .str "keep"])
    have h0 := k0 _ _ h
    refine ⟨_, rfl, _, rfl, _, _, _, _, rfl, rfl, SqT.of h0, rfl, _, rfl, _, t, bs, rfl, r.keep (Tups.of k0), by omega, by omega, powL (by omega) hb, fun H1 s1 => ?_⟩
    refine ⟨_, rfl, _, rfl, _, _, _, _, rfl, rfl, SqT.of (s1 _ _ h0), rfl, _, rfl, _, u, bs, rfl, r'.keep (Tups.of (k0.trans' s1)), by omega, by omega, powL (by omega) hb, fun H2 s2 => ?_⟩
    have hu8 : (flow t bs).length ≤ 40000 := flowL (powL (by omega) hb)
    refine ⟨_, _, rfl, by rw [tx_len]; exact small5 (by omega), fun H3 p ts s3 hp hts hpt hl3 pr => ?_⟩
    have kk : Same H H3 := (((k0.trans' s1).trans' s2).trans' s3)
    have h3 := kk _ _ h
    have hlen : ts.length = min (flow t bs).length (flow u bs).length := by rw [paired_len pr, zipV_len, tx_size, tx_size]
    refine ⟨_, rfl, _, _, _, _, rfl, rfl, SqT.of h3, rfl, rfl, _, rfl, iteTd (by decide +kernel) ?_⟩
    refine ⟨⟨_, rfl⟩, _, rfl, _, rfl, ⟨_, SqL.of hl3⟩, fun D hD => lc_it walk_list (fun i H' => Same H3 H' ∧ H' D = some (.lst ((keepL ((flow t bs).take i) ((flow u bs).take i)).map vs))) ⟨same_new hD _, upd_same⟩ (fun i H' _ z => SqL.of (z.1 _ _ hl3)) ?_ ?_⟩
    · rintro i x H4 H5 hi ⟨sm, hd⟩ ⟨rfl, hx⟩
      obtain ⟨tt, htt, rfl⟩ := List.getElem?_map_some hx
      obtain ⟨qq, hq, ht⟩ := paired_get pr htt
      obtain ⟨x, y, hx, hy, rfl⟩ := zipV_get hq
      have ht4 := sm _ _ ht
      have hil := lt_len hx
      have hsn := keep_snoc _ _ i x y hx hy
      have hkl := keepL_len ((flow t bs).take i) ((flow u bs).take i)
      refine ⟨_, _, rfl, SqT.of ht4, rfl, _, _, rfl, _, _, rfl, rfl, rfl, ?_⟩
      refine ⟨_, rfl, rfl, _, rfl, ?_⟩
      rw [show decide (V.str { cps := #[cd y] } = V.str (Str.ofString "1")) = y by cases y <;> decide +kernel]
      cases y with
      | false =>
        refine iteF ⟨sm, ?_⟩
        rw [hd, hsn]
        simp
      | true =>
        refine iteT ⟨_, rfl, _, hd, ?_, same_at sm hD, ?_⟩
        · rw [List.length_map]
          rw [List.length_take] at hkl
          exact Nat.lt_of_lt_of_le (show _ < 100000 by omega) (by decide)
        rw [upd_same, hsn]
        simp
        rfl
    · rintro H4 ⟨sm, hd⟩
      rw [List.length_map, hlen, keep_all] at hd
      have := keepL_len (flow t bs) (flow u bs)
      exact joinEnd hd (by omega) (q _ (kk.trans' sm))
  | byy b1 b2 b3 b4 t u =>
    obtain ⟨a, x, y, rfl, h, r, r'⟩ := ta
    have hnd : (Tm.byy b1 b2 b3 b4 t u).nodes = t.nodes + u.nodes + 1 := rfl
    have := t.nodes_pos
    have := u.nodes_pos
    refine iteF ?_
    refine ⟨_, rfl, _, _, _, _, rfl, rfl, SqT.of h, rfl, rfl, _, rfl, iteFd (by decide +kernel) ?_⟩
    refine ⟨_, rfl, _, _, _, _, rfl, rfl, SqT.of h, rfl, sz2, fun p0 hp0 => ⟨_, _, rfl, .inr (SqT.of upd_same), rfl, rfl, _, rfl, iteFd oNb ?_⟩⟩
    have k0 := same_new hp0 (.tup [.str "by", .str "keep"])
    have h0 := k0 _ _ h
    refine ⟨_, rfl, _, rfl, _, _, _, _, rfl, rfl, SqT.of h0, rfl, _, rfl, _, t, bs, rfl, r.keep (Tups.of k0), by omega, by omega, powL (by omega) hb, fun H1 s1 => ?_⟩
    refine ⟨_, rfl, _, rfl, _, _, _, _, rfl, rfl, SqT.of (s1 _ _ h0), rfl, _, rfl, _, u, bs, rfl, r'.keep (Tups.of (k0.trans' s1)), by omega, by omega, powL (by omega) hb, fun H2 s2 => ?_⟩
    have hu8 : (flow t bs).length ≤ 40000 := flowL (powL (by omega) hb)
    refine ⟨_, _, rfl, by rw [tx_len]; exact small5 (by omega), fun H3 p ts s3 hp hts hpt hl3 pr => ?_⟩
    have kk : Same H H3 := (((k0.trans' s1).trans' s2).trans' s3)
    have h3 := kk _ _ h
    have hlen : ts.length = min (flow t bs).length (flow u bs).length := by rw [paired_len pr, zipV_len, tx_size, tx_size]
    refine ⟨_, rfl, _, _, _, _, rfl, rfl, SqT.of h3, rfl, rfl, _, rfl, iteFd (by decide +kernel) ?_⟩
    refine ⟨⟨_, rfl⟩, _, rfl, _, rfl, ⟨_, SqL.of hl3⟩, fun D hD => lc_it walk_list (fun i H' => Same H3 H' ∧ H' D = some (.lst (((byL b1 b2 b3 b4 (flow t bs) (flow u bs)).take i).map vs))) ⟨same_new hD _, upd_same⟩ (fun i H' _ z => SqL.of (z.1 _ _ hl3)) ?_ ?_⟩
    · rintro i x H4 H5 hi ⟨sm, hd⟩ ⟨rfl, hx⟩
      obtain ⟨tt, htt, rfl⟩ := List.getElem?_map_some hx
      obtain ⟨qq, hq, ht⟩ := paired_get pr htt
      obtain ⟨x, y, hx, hy, rfl⟩ := zipV_get hq
      have ht4 := sm _ _ ht
      have hil := lt_len hx
      have hg := by_get b1 b2 b3 b4 _ _ i x y hx hy
      refine ⟨_, _, rfl, SqT.of ht4, rfl, _, _, rfl, _, _, rfl, rfl, rfl, tyI ?_⟩
      refine ⟨_, rfl, _, _, _, _, rfl, rfl, SqT.of (sm _ _ h3), rfl, _, rfl, _, _, rfl, int_sgn x, sl640 _, _, _, rfl, rfl, .inl (by decide), _, rfl, _, _, rfl, int_sgn y, sl640 _, _, _, rfl, rfl, ?_⟩
      refine ⟨_, _, cd (if x then (if y then b4 else b3) else (if y then b2 else b1)), rfl, rfl, by rw [tx_len]; exact small5 (by simp), ?_, ?_⟩
      · rw [tx_toList]
        cases x <;> cases y <;> rfl
      refine ⟨_, hd, take_len_le _ _ _ (by omega), same_at sm hD, ?_⟩
      rw [upd_same, ← take_one _ hg]
      rfl
    · rintro H4 ⟨sm, hd⟩
      rw [List.length_map, hlen, List.take_of_length_le (by rw [by_len]; omega)] at hd
      exact joinEnd hd (by rw [by_len]; omega) (q _ (kk.trans' sm))
theorem ok_law_flow (F : Fun K "_law_flow" "_law_flow" s_law_flow f fd) (T : Txt K mg aS a1 a2) (hm : mg "_law_flow" = some (.ref f)) (hk : PySem.W.keepIn K (.ref f) = true) (hb : Binds K fd ["_law_term_here", "_law_stream_here"] []) (c__law_single : C8.Cal P w K mg base 1 "_law_single" spOfOne []) : ∀ n, C8.Cal P w K mg base (n + 3) "_law_flow" (spFlowL n) []
  | 0 => ⟨f, fd, _, [], ⟨by rintro vs H Q E ⟨b, t, bs, rfl, _⟩; rfl, by
      rintro A outer s H args us vs Q E hr e0 hb r ⟨b, t, bs, rfl, _, hn, _⟩
      have := t.nodes_pos
      omega⟩, hm, hk, hb, .nil⟩
  | n + 1 => ⟨f, fd, _, [], step_law_flow F T c__law_single (ok_law_flow F T hm hk hb c__law_single n), hm, hk, hb, .nil⟩
end
def spNodes (n : Nat) : Sp := fun vs H Q _ => ∃ v t, vs = [v] ∧ TA H v t ∧ t.dep ≤ n ∧ t.dep ≤ 60 ∧ ∀ H', Same H H' → Q (.int t.nodes) H'
theorem extra_not (t : Tm) (z : Str) (h : z ∈ t.extra) : PyData.eqv (.str z) (.str "in") = false ∧ SeqAt.shaped (.str z) = true := by
  cases t with
  | late b t =>
    simp [Tm.extra] at h
    subst h
    cases b <;> exact ⟨by decide +kernel, by decide +kernel⟩
  | byy a b c d t u =>
    simp [Tm.extra] at h
    subst h
    cases a <;> cases b <;> cases c <;> cases d <;> exact ⟨by decide +kernel, by decide +kernel⟩
  | _ => simp [Tm.extra] at h
theorem cut1 (x : V) (xs : List V) : cutV (x :: xs) (some 1) none = xs := by
  unfold cutV
  rw [HT.sIx_none, show HT.sIx (x :: xs).length 0 (some 1) = 1 by
    have := HT.sIx_nat (x :: xs).length 0 1
    simp only [List.length_cons] at this ⊢
    rw [show ((1 : Nat) : Int) = 1 from rfl] at this
    rw [this]; omega]
  simp
theorem nwh (x : V) (xs : List V) {p : Prop} : ¬ (HT.sIx (x :: xs).length 0 (some 1) = 0 ∧ p) := by
  have := HT.sIx_nat (x :: xs).length 0 1
  rw [show ((1 : Nat) : Int) = 1 from rfl] at this
  rw [this]
  simp only [List.length_cons]
  omega
theorem extra_le (t : Tm) : t.extra.length ≤ 1 := by cases t <;> simp [Tm.extra]
theorem sum_nodes : ∀ ts : List Tm, (ts.map fun t => (t.nodes : Int)).sum = sumN ts
  | [] => rfl
  | t :: r => by simp [sumN, sum_nodes r]
section
variable {P : Program} {w : World} {K : PySem.W.Frag} {mg : Str → Option Value} {base : Heap} {aS a1 a2 : Addr} {f : Addr} {fd : FuncData}
abbrev s_law_nodes : Stmt := top 51
abbrev N_law_nodes : List Str := ["_law_term_here", "_law_parts", "_law_part"]
theorem sc_law_nodes : FnScope N_law_nodes ["_law_term_here"] (defScope s_law_nodes) := ⟨rfl, rfl, rfl, by decide +kernel, rfl, by decide +kernel, by decide +kernel⟩
theorem step_law_nodes {n : Nat} (F : Fun K "_law_nodes" "_law_nodes" s_law_nodes f fd) (T : Txt K mg aS a1 a2) (c__law_nodes : C8.Cal P w K mg base n "_law_nodes" (spNodes n) []) : FnOk P w K mg base CX0 (n + 1) f fd ["_law_term_here"] (spNodes (n + 1)) := by
  refine F.ok sc_law_nodes (fun vs H Q E h => ?_) (fun cdv A outer s H vs Q E hr h => ?_)
  · obtain ⟨b, t, rfl, _⟩ := h
    rfl
  obtain ⟨v, t, rfl, ta, hn, h9, q⟩ := h
  refine ⟨_, (pss_cons (ps_if (pt_cmpR (kEqD K rfl hr.units) (pv 0) pe_str (nomark _))
        (pss_one (ps_ret pe_int))
        pss_nil)
        (pss_cons (ps_setLc (i := 1) (own := [("_law_part", 2)]) rfl sc_law_nodes.nd rfl rfl (sw_true rfl rfl rfl (by decide +kernel)) (kTup K rfl (pe_slice (kSlT K rfl) (pv 0) (po_some pe_int) po_none)) (blkOk_by (N := N_law_nodes) (sc := defScope s_law_nodes) (by decide +kernel)) (fun _ _ _ _ _ => (pg_name (i := 2) sc_law_nodes.nd rfl (Or.inl rfl))) (fun _ _ _ _ _ => pts_one (PW.pt (pw_or (pt_cmpR (kEqD K rfl hr.units) (pv 2) pe_str (nomark _)) (pw_or1 (pt_val (pe_callB (kIsi K rfl) rfl T.b_isinstance bt_isinstance (pa_cons (pv 2) (pa_cons (pTy rfl T.b_tuple bt_tuple) pa_nil)))))))) (fun _ _ _ _ _ => (pv 2)))
        (pss_one (ps_ret (pe_op op_add pe_int (pe_callB (kSum K rfl rfl) rfl T.b_sum bt_sum (pa_cons (pe_lc (own := [("_law_part", 2)]) rfl sc_law_nodes.nd (kList K rfl (pv 1)) (blkOk_by (N := N_law_nodes) (sc := defScope s_law_nodes) (by decide +kernel)) (fun _ _ _ _ _ => (pg_name (i := 2) sc_law_nodes.nd rfl (Or.inl rfl))) (fun _ _ _ _ _ => pts_nil) (fun _ _ _ _ _ => (C8.pe_c c__law_nodes hr (by omega) rfl (pa_cons (pv 2) pa_nil)))) pa_nil))))))), ?_⟩
  refine ⟨_, rfl, _, _, ta.dp, .str _, shp_dep (by omega), shp_in, _, rfl, ?_⟩
  rw [eqv_in]
  cases hin : t.isIn with
  | true =>
    have e : t = .inn := by cases t <;> first | rfl | cases hin
    subst e
    exact iteT (q _ (Same.refl _))
  | false =>
    refine iteF ?_
    obtain ⟨a, ws, rfl, ha, hpa⟩ := ta.node hin
    have hwl := paired_len hpa
    have hex := extra_le t
    have hsp := sumN_parts t
    have hsl := parts_few t
    refine ⟨_, rfl, _, rfl, _, _, rfl, SqT.of ha, nwh _ _, fun p hp => ?_⟩
    rw [cut1]
    have k0 := same_new hp (.tup (t.extra.map V.str ++ ws))
    refine ⟨_, rfl, ⟨_, SqT.of upd_same⟩, fun D hD => lc_it walk_tup (fun i H' => Same (upd H p (.tup (t.extra.map V.str ++ ws))) H' ∧ H' D = some (.lst (ws.take (i - t.extra.length)))) ⟨same_new hD _, by rw [upd_same]; simp⟩ (fun i H' _ z => SqT.of (z.1 _ _ upd_same)) ?_ ?_⟩
    · rintro i x H2 H3 hi ⟨sm, hd⟩ ⟨rfl, hx⟩
      refine ⟨rfl, _, rfl, ?_⟩
      by_cases hie : i < t.extra.length
      · rw [List.getElem?_append_left (by rw [List.length_map]; exact hie)] at hx
        obtain ⟨z, hz, rfl⟩ := List.getElem?_map_some hx
        obtain ⟨e1, e2⟩ := extra_not t z (List.mem_of_getElem? hz)
        refine ⟨_, _, .str _, .str _, e2, shp_in, _, rfl, iteFd e1 ?_⟩
        refine ⟨_, rfl, _, _, _, _, _, rfl, .ty _, ty_str _, kst, _, rfl, iteF ⟨sm, ?_⟩⟩
        rw [hd, show i + 1 - t.extra.length = i - t.extra.length by omega]
      · rw [List.getElem?_append_right (by rw [List.length_map]; omega), List.length_map] at hx
        obtain ⟨u, hu, hxu⟩ := paired_get hpa hx
        have hun := parts_dep (List.mem_of_getElem? hu)
        have hxu2 := hxu.keep (Tups.of (k0.trans' sm))
        refine ⟨_, _, hxu2.dp, .str _, shp_dep (by omega), shp_in, _, rfl, ?_⟩
        rw [eqv_in]
        have fin : ∃ acc, H3 D = some (.lst acc) ∧ acc.length < sizeLine ∧ Same (upd H p (.tup (t.extra.map V.str ++ ws))) (upd H3 D (.lst (acc ++ [x]))) ∧ upd H3 D (.lst (acc ++ [x])) D = some (.lst (ws.take (i + 1 - t.extra.length))) := by
          refine ⟨_, hd, ?_, same_at sm hD, ?_⟩
          · have := take_len_le (fun x : V => x) ws (i - t.extra.length) (by have := lt_len hx; omega)
            rw [List.map_id'] at this
            exact this
          · rw [upd_same, show i + 1 - t.extra.length = (i - t.extra.length) + 1 by omega, List.take_succ, hx]
            rfl
        cases hui : u.isIn with
        | true => exact iteT (iteT ⟨_, rfl, fin⟩)
        | false =>
          obtain ⟨b, us, rfl, hb, _⟩ := hxu2.node hui
          exact iteF ⟨_, rfl, _, _, _, _, _, rfl, .ty _, ty_tup hb, ktt, _, rfl, iteT ⟨_, rfl, fin⟩⟩
    · rintro H2 ⟨sm, hd⟩
      rw [show (t.extra.map V.str ++ ws).length - t.extra.length = ws.length by simp, List.take_of_length_le (Nat.le_refl _)] at hd
      have kk := k0.trans' sm
      refine ⟨_, rfl, _, rfl, ⟨_, SqL.of hd⟩, fun D2 hD2 => lc_it walk_list (fun i H' => Same H2 H' ∧ H' D2 = some (.lst (((t.parts.take i).map fun u => (u.nodes : Int)).map V.int))) ⟨same_new hD2 _, upd_same⟩ (fun i H' _ z => SqL.of (z.1 _ _ hd)) ?_ ?_⟩
      · rintro i x H3 H4 hi ⟨sm3, hd3⟩ ⟨rfl, hx⟩
        obtain ⟨u, hu, hxu⟩ := paired_get hpa hx
        have hun := parts_dep (List.mem_of_getElem? hu)
        have hil := lt_len hu
        refine ⟨rfl, tyI ⟨_, rfl, _, u, rfl, hxu.keep (Tups.of (kk.trans' sm3)), by omega, by omega, fun H5 s5 => ?_⟩⟩
        refine ⟨_, s5 _ _ hd3, ?_, same_at (sm3.trans' s5) hD2, ?_⟩
        · rw [List.length_map]
          exact take_len_le _ _ _ (by omega)
        · rw [upd_same, ← take_one _ hu]
          simp
      · rintro H3 ⟨sm3, hd3⟩
        rw [hwl, List.take_of_length_le (Nat.le_refl _)] at hd3
        refine ⟨_, _, rfl, SqL.of hd3, _, _, rfl, rfl, ?_⟩
        rw [sum_nodes]
        have e : (1 : Int) + (sumN t.parts : Int) = (t.nodes : Int) := by omega
        have z := q _ (kk.trans' sm3)
        rw [← e] at z
        exact z
theorem ok_law_nodes (F : Fun K "_law_nodes" "_law_nodes" s_law_nodes f fd) (T : Txt K mg aS a1 a2) (hm : mg "_law_nodes" = some (.ref f)) (hk : PySem.W.keepIn K (.ref f) = true) (hb : Binds K fd ["_law_term_here"] []) : ∀ n, C8.Cal P w K mg base n "_law_nodes" (spNodes n) []
  | 0 => ⟨f, fd, _, [], ⟨by rintro vs H Q E ⟨b, t, rfl, _⟩; rfl, by
      rintro A outer s H args us vs Q E hr e0 hb r ⟨b, t, rfl, _, hn, _⟩
      have := t.dep_pos
      omega⟩, hm, hk, hb, .nil⟩
  | n + 1 => ⟨f, fd, _, [], step_law_nodes F T (ok_law_nodes F T hm hk hb n), hm, hk, hb, .nil⟩
end
end FY


set_option Elab.async false
set_option linter.all false
set_option maxRecDepth 100000
set_option maxHeartbeats 4000000
namespace FY
open PySem L2 FYR
/-- all but p stays -/
def Kp (p : Addr) (H H' : Hp) : Prop := ∀ b o, b ≠ p → H b = some o → H' b = some o
def Pot (p : Addr) (H : Hp) : Prop := ∃ a b : Int, H p = some (.lst [.int a, .int b]) ∧ 0 ≤ a ∧ 0 ≤ b ∧ b < 2147483563
theorem Kp.refl (p : Addr) (H : Hp) : Kp p H H := fun _ _ _ h => h
theorem Kp.trans {p : Addr} {H H1 H2 : Hp} (a : Kp p H H1) (b : Kp p H1 H2) : Kp p H H2 := fun x o n e => b x o n (a x o n e)
theorem Kp.of {p : Addr} {H H' : Hp} (s : Same H H') : Kp p H H' := fun b o _ e => s b o e
theorem Pot.tups {p : Addr} {H H' : Hp} (a : Pot p H) (k : Kp p H H') : Tups H H' := fun b xs e => by
  obtain ⟨_, _, h, _⟩ := a
  refine k b _ (fun z => ?_) e
  rw [z, h] at e
  cases e
theorem Pot.same {p : Addr} {H H' : Hp} (a : Pot p H) (s : Same H H') : Pot p H' := by
  obtain ⟨x, y, h, r⟩ := a
  exact ⟨x, y, s _ _ h, r⟩
theorem Pot.ne {p q : Addr} {H : Hp} (a : Pot p H) (h : H q = none) : q ≠ p := fun z => by
  obtain ⟨_, _, e, _⟩ := a
  rw [z, e] at h
  cases h
theorem kp_new {p q : Addr} {H : Hp} (h : H q = none) (o : HO) : Kp p H (upd H q o) := Kp.of (same_new h o)
theorem kp_upd {p : Addr} {H : Hp} (o : HO) : Kp p H (upd H p o) := fun b u n e => by rw [upd_ne n]; exact e
def spDraw : Sp := fun vs H Q _ => ∃ p n, vs = [.ref p, .int n] ∧ Pot p H ∧ 0 < n ∧ n < 1073741824 ∧ ∀ (d : Int) (H' : Hp), 0 ≤ d → d < n → Kp p H H' → Pot p H' → Q (.int d) H'
def spPick : Sp := fun vs H Q _ => ∃ p L xs, vs = [.ref p, .ref L] ∧ Pot p H ∧ L ≠ p ∧ H L = some (.lst xs) ∧ 0 < xs.length ∧ xs.length ≤ 100 ∧ ∀ (x : V) (H' : Hp), x ∈ xs → Kp p H H' → Pot p H' → Q x H'
def spTerm (n : Nat) : Sp := fun vs H Q _ => ∃ p m, vs = [.ref p, .int m] ∧ Pot p H ∧ 1 ≤ m ∧ m ≤ n ∧ n ≤ 1000 ∧ ∀ (v : V) (t : Tm) (H' : Hp), TA H' v t → (t.nodes : Int) ≤ m → Kp p H H' → Pot p H' → Q v H'
def spStream : Sp := fun vs H Q _ => ∃ p m, vs = [.ref p, .int m] ∧ Pot p H ∧ 0 ≤ m ∧ m ≤ 1000 ∧ ∀ (bs : List Bool) (H' : Hp), (bs.length : Int) ≤ m → Kp p H H' → Pot p H' → Q (.str (tx bs)) H'
def spAround : Sp := fun vs H Q _ => ∃ p v t, vs = [.ref p, v] ∧ Pot p H ∧ TA H v t ∧ ∀ (v' : V) (t' : Tm) (H' : Hp), TA H' v' t' → t'.nodes ≤ t.nodes + 3 → Kp p H H' → Pot p H' → Q v' H'
theorem atI_mem {xs : List V} {d : Int} (h0 : 0 ≤ d) (h1 : d < xs.length) : ∃ x, atI xs d = some x ∧ x ∈ xs := by
  have hl : d.toNat < xs.length := by omega
  refine ⟨xs[d.toNat], ?_, List.getElem_mem hl⟩
  unfold atI ixN
  rw [if_pos h0, if_pos h1]
  show xs[d.toNat]? = _
  rw [List.getElem?_eq_getElem hl]
section
variable {P : Program} {w : World} {K : PySem.W.Frag} {mg : Str → Option Value} {base : Heap} {aS a1 a2 : Addr} {f : Addr} {fd : FuncData}
abbrev s_law_draw : Stmt := top 45
abbrev N_law_draw : List Str := ["_law_pot_here", "_law_size", "_law_digit"]
theorem sc_law_draw : FnScope N_law_draw ["_law_pot_here", "_law_size"] (defScope s_law_draw) := ⟨rfl, rfl, rfl, by decide +kernel, rfl, by decide +kernel, by decide +kernel⟩
theorem ok_law_draw (F : Fun K "_law_draw" "_law_draw" s_law_draw f fd) (T : Txt K mg aS a1 a2) : FnOk P w K mg base CX0 1 f fd ["_law_pot_here", "_law_size"] spDraw := by
  refine F.ok sc_law_draw (fun vs H Q E h => ?_) (fun cdv A outer s H vs Q E hr h => ?_)
  · obtain ⟨p, n, rfl, _⟩ := h
    rfl
  obtain ⟨p, n, rfl, ⟨a, b, hp, ha, hb0, hb1⟩, hn0, hn1, q⟩ := h
  refine ⟨_, (pss_cons (ps_if (pt_cmpR op_gt (pe_ix (kIxL K rfl) (pv 0) pe_int (fun _ _ => rfl)) pe_int (nomark _))
        (pss_cons (ps_asg (pe_callB call_divmodW rfl T.b_divmod bt_divmod (pa_cons (pe_ix (kIxL K rfl) (pv 0) pe_int (fun _ _ => rfl)) (pa_cons (pv 1) pa_nil))) (kTupG (n := 2) K rfl rfl (pgs_cons (pg_sub (pv 0) pe_int set_list) (pgs_cons (pg_name (i := 2) sc_law_draw.nd rfl (Or.inl rfl)) pgs_nil))))
        (pss_one (ps_ret (pv 2))))
        pss_nil)
        (pss_cons (ps_asg (pe_op op_mod (pe_callTy call_int1 rfl T.b_int bt_int (pa_cons (pe_op op_add (pe_op op_mul (pe_ix (kIxL K rfl) (pv 0) pe_int (fun _ _ => rfl)) pe_int) pe_int) pa_nil)) pe_int) (pg_sub (pv 0) pe_int set_list))
        (pss_one (ps_ret (pe_op op_mod (pe_callTy call_int1 rfl T.b_int bt_int (pa_cons (pe_op op_fdiv (pe_op op_mod (pe_callTy call_int1 rfl T.b_int bt_int (pa_cons (pe_op op_mul (pe_ix (kIxL K rfl) (pv 0) pe_int (fun _ _ => rfl)) (pe_ix (kIxL K rfl) (pv 0) pe_int (fun _ _ => rfl))) pa_nil)) pe_int) pe_int) pa_nil)) (pv 1)))))), ?_⟩
  refine ⟨_, rfl, _, _, _, _, rfl, rfl, SqL.of hp, rfl, _, _, rfl, rfl, _, rfl, ?_⟩
  by_cases h0 : 0 < a
  · refine iteTd (by simpa using h0) ?_
    refine ⟨_, rfl, _, _, _, _, rfl, rfl, SqL.of hp, rfl, _, rfl, _, _, rfl, ⟨hn0, PyProof.noPylong_small (by omega)⟩, fun T0 hT => ?_⟩
    have hne : p ≠ T0 := fun z => by rw [← z, hp] at hT; cases hT
    refine ⟨_, _, rfl, SqT.of upd_same, rfl, _, _, rfl, _, rfl, _, _, _, _, rfl, rfl, (upd_ne hne).trans hp, rfl, _, _, rfl, rfl, _, rfl, ?_⟩
    refine q _ _ (Int.emod_nonneg _ (by omega)) (Int.emod_lt_of_pos _ hn0) ((kp_new hT _).trans (kp_upd _)) ⟨_, _, upd_same, Int.ediv_nonneg ha (by omega), hb0, hb1⟩
  · refine iteFd (by simpa using h0) ?_
    refine ⟨_, rfl, _, _, _, _, rfl, rfl, SqL.of hp, rfl, _, _, rfl, rfl, .inr (by decide), _, _, rfl, rfl, .inl ⟨_, rfl, _, _, rfl, rfl, (by decide : (0 : Int) < 2147483543), _, rfl, _, _, _, _, rfl, rfl, hp, rfl, ?_⟩⟩
    refine ⟨_, rfl, _, _, _, _, rfl, rfl, SqL.of upd_same, rfl, _, rfl, _, _, _, _, rfl, rfl, SqL.of upd_same, rfl, _, _, rfl, rfl, .inl ?_, .inl ⟨_, rfl, _, _, rfl, rfl, (by decide : (0 : Int) < 2147483563), _, _, rfl, rfl, ⟨by decide, by decide⟩, .inl ⟨_, rfl, _, rfl, _, _, rfl, rfl, hn0, ?_⟩⟩⟩
    · have h1 := Int.emod_nonneg (b * 48271 + 22868) (show (2147483543 : Int) ≠ 0 by decide)
      have h2 := Int.emod_lt_of_pos (b * 48271 + 22868) (show (0 : Int) < 2147483543 by decide)
      constructor <;> omega
    · refine q _ _ (Int.emod_nonneg _ (by omega)) (Int.emod_lt_of_pos _ hn0) (kp_upd _) ⟨_, _, upd_same, ha, Int.emod_nonneg _ (by decide), ?_⟩
      have h2 := Int.emod_lt_of_pos (b * 48271 + 22868) (show (0 : Int) < 2147483543 by decide)
      omega
abbrev s_law_pick : Stmt := top 46
abbrev N_law_pick : List Str := ["_law_pot_here", "_law_some"]
theorem sc_law_pick : FnScope N_law_pick ["_law_pot_here", "_law_some"] (defScope s_law_pick) := ⟨rfl, rfl, rfl, by decide +kernel, rfl, by decide +kernel, by decide +kernel⟩
theorem ok_law_pick (F : Fun K "_law_pick" "_law_pick" s_law_pick f fd) (T : Txt K mg aS a1 a2) (c__law_draw : C8.Cal P w K mg base 1 "_law_draw" spDraw []) : FnOk P w K mg base CX0 2 f fd ["_law_pot_here", "_law_some"] spPick := by
  refine F.ok sc_law_pick (fun vs H Q E h => ?_) (fun cdv A outer s H vs Q E hr h => ?_)
  · obtain ⟨p, n, xs, rfl, _⟩ := h
    rfl
  obtain ⟨p, L, xs, rfl, hp, hne, hL, h0, h1, q⟩ := h
  refine ⟨_, (pss_one (ps_ret (pe_ix (kIxL K rfl) (pv 1) (C8.pe_c c__law_draw hr (by decide) rfl (pa_cons (pv 0) (pa_cons (pe_callB (kLen K rfl) rfl T.b_len bt_len (pa_cons (pv 1) pa_nil)) pa_nil))) (fun _ _ => rfl)))), ?_⟩
  refine ⟨_, rfl, _, rfl, _, rfl, _, _, rfl, .inl (SqL.of hL), p, _, rfl, hp, by omega, by omega, fun d H' d0 d1 k pt => ?_⟩
  obtain ⟨x, hx, hm⟩ := atI_mem d0 d1
  exact ⟨_, _, _, x, rfl, rfl, SqL.of (k _ _ hne hL), hx, q _ _ hm k pt⟩
end
end FY


set_option Elab.async false
set_option linter.all false
set_option maxRecDepth 100000
set_option maxHeartbeats 4000000
namespace FY
open PySem L2 FYR
def spPot (K : PySem.W.Frag) : Sp := fun vs H Q _ => ∃ (L : Addr) (ns : List Int) (k : Int), vs = [.ref L, .int k] ∧ SqL K H L (ns.map V.int) ∧ 0 ≤ k ∧ k < 64 ∧ ∀ (H' : Hp) (p : Addr), Same H H' → H p = none → Pot p H' → Q (.ref p) H'
theorem sz {xs : List V} (h : Nat.ble xs.length 10 = true) : xs.length ≤ sizeLine := Nat.le_trans (Nat.le_of_ble_eq_true h) (by decide)
theorem kp_at {p L : Addr} {H H1 : Hp} {o : HO} (a : Kp p H H1) (h : H L = none) : Kp p H (upd H1 L o) := fun b u n e => by
  rw [upd_ne (ne_of_none e h)]
  exact a b u n e
theorem pot_at {p L : Addr} {H : Hp} {o : HO} (a : Pot p H) (h : L ≠ p) : Pot p (upd H L o) := by
  obtain ⟨x, y, e, r⟩ := a
  exact ⟨x, y, (upd_ne (Ne.symm h)).trans e, r⟩
theorem w6 {x : V} (h : x ∈ [V.str "not", V.str "twice", V.str "half", V.str "change", V.str "count", V.str "late"]) : (∃ w : W1, x = .str w.s) ∨ x = .str "late" := by
  simp only [List.mem_cons, List.not_mem_nil, or_false] at h
  rcases h with h | h | h | h | h | h
  · exact .inl ⟨.no, h⟩
  · exact .inl ⟨.twice, h⟩
  · exact .inl ⟨.half, h⟩
  · exact .inl ⟨.change, h⟩
  · exact .inl ⟨.count, h⟩
  · exact .inr h
theorem w5 {x : V} (h : x ∈ [V.str "not", V.str "twice", V.str "half", V.str "change", V.str "count"]) : ∃ w : W1, x = .str w.s := by
  simp only [List.mem_cons, List.not_mem_nil, or_false] at h
  rcases h with h | h | h | h | h
  · exact ⟨.no, h⟩
  · exact ⟨.twice, h⟩
  · exact ⟨.half, h⟩
  · exact ⟨.change, h⟩
  · exact ⟨.count, h⟩
theorem w4 {x : V} (h : x ∈ [V.str "by", V.str "by", V.str "keep", V.str "then"]) : x = .str "by" ∨ x = .str "keep" ∨ x = .str "then" := by
  simp only [List.mem_cons, List.not_mem_nil, or_false] at h
  rcases h with h | h | h | h
  · exact .inl h
  · exact .inl h
  · exact .inr (.inl h)
  · exact .inr (.inr h)
theorem w2 {x : V} (h : x ∈ [V.str "0", V.str "1"]) : ∃ b, x = .str (sgn b) := by
  simp only [List.mem_cons, List.not_mem_nil, or_false] at h
  rcases h with h | h
  · exact ⟨false, by rw [h, s0]⟩
  · exact ⟨true, by rw [h, s1]⟩
theorem tb4 {x : V} {bs : List Bool} (hb : bs.length = 4) (h : x ∈ [V.str "0110", V.str "0001", V.str "0111", V.str (tx bs)]) : ∃ a b c d, x = .str (tx [a, b, c, d]) := by
  simp only [List.mem_cons, List.not_mem_nil, or_false] at h
  rcases h with h | h | h | h
  · exact ⟨false, true, true, false, by rw [h]; exact congrArg V.str (by decide +kernel)⟩
  · exact ⟨false, false, false, true, by rw [h]; exact congrArg V.str (by decide +kernel)⟩
  · exact ⟨false, true, true, true, by rw [h]; exact congrArg V.str (by decide +kernel)⟩
  · match bs, hb with
    | [a, b, c, d], _ => exact ⟨a, b, c, d, h⟩
section
variable {P : Program} {w : World} {K : PySem.W.Frag} {mg : Str → Option Value} {base : Heap} {aS a1 a2 : Addr} {f : Addr} {fd : FuncData}
abbrev s_law_pot : Stmt := top 44
abbrev N_law_pot : List Str := ["_law_script", "_law_k", "_law_cell"]
theorem sc_law_pot : FnScope N_law_pot ["_law_script", "_law_k"] (defScope s_law_pot) := ⟨rfl, rfl, rfl, by decide +kernel, rfl, by decide +kernel, by decide +kernel⟩
theorem ok_law_pot (F : Fun K "_law_pot" "_law_pot" s_law_pot f fd) (T : Txt K mg aS a1 a2) : FnOk P w K mg base CX0 1 f fd ["_law_script", "_law_k"] (spPot K) := by
  refine F.ok sc_law_pot (fun vs H Q E h => ?_) (fun cdv A outer s H vs Q E hr h => ?_)
  · obtain ⟨L, ns, k, rfl, _⟩ := h
    rfl
  obtain ⟨L, ns, k, rfl, hS, k0, k1, q⟩ := h
  refine ⟨_, (pss_cons (ps_set (i := 2) sc_law_pot.nd rfl (Or.inl rfl) (pe_op op_add (pe_op op_mul pe_int (pv 1)) pe_int))
        (pss_cons (ps_if (pt_cmpR op_lt (pv 1) (pe_callB (kLen K rfl) rfl T.b_len bt_len (pa_cons (pv 0) pa_nil)) (nomark _))
        (pss_one (ps_set (i := 2) sc_law_pot.nd rfl (Or.inl rfl) (pe_callB call_abs rfl T.b_abs bt_abs (pa_cons (pe_ix (kIxL K rfl) (pv 0) (pv 1) (fun _ _ => rfl)) pa_nil))))
        pss_nil)
        (pss_one (ps_ret (pe_lst (pa_cons (pe_callB (call_max2 rfl) rfl T.b_max bt_max (pa_cons pe_int (pa_cons (pe_op op_sub (pv 2) (pe_op op_pow pe_int pe_int)) pa_nil))) (pa_cons (pe_op op_add (pe_op op_mod (pe_callTy call_int1 rfl T.b_int bt_int (pa_cons (pe_op op_add (pe_op op_add (pe_op op_mul (pe_op op_mod (pe_callTy call_int1 rfl T.b_int bt_int (pa_cons (pv 2) pa_nil)) pe_int) pe_int) (pe_op op_mul pe_int (pv 1))) pe_int) pa_nil)) pe_int) pe_int) pa_nil))))))), ?_⟩
  refine ⟨_, rfl, _, _, rfl, rfl, .inl (by decide), _, _, rfl, rfl, ?_⟩
  refine ⟨_, rfl, _, rfl, _, _, rfl, .inl hS, _, _, rfl, rfl, _, rfl, ?_⟩
  by_cases hk : k < (ns.map V.int).length
  · refine iteTd (by simpa using hk) ?_
    obtain ⟨x, hx, hm⟩ := atI_mem k0 hk
    obtain ⟨c, _, rfl⟩ := List.mem_map.mp hm
    refine ⟨_, rfl, _, rfl, _, _, _, _, rfl, rfl, hS, hx, c, rfl, ?_⟩
    refine ⟨_, rfl, _, _, rfl, rfl, ⟨by decide, by decide, by decide⟩, _, _, rfl, rfl, _, _, rfl, ?_⟩
    refine ⟨_, rfl, .inl ⟨_, rfl, _, _, rfl, rfl, (by decide : (0 : Int) < 2147483563), _, _, rfl, rfl, .inr (by decide), _, rfl, _, _, rfl, rfl, .inl (by decide), _, _, rfl, rfl, _, _, rfl, rfl, .inl ⟨_, rfl, _, _, rfl, rfl, (by decide : (0 : Int) < 2147483543), _, _, rfl, rfl, sz2, fun p hp => ?_⟩⟩⟩
    refine q _ _ (same_new hp _) hp ⟨_, _, upd_same, ?_, ?_, ?_⟩
    · split <;> omega
    · have := Int.emod_nonneg ((if c < 0 then -c else c) % 2147483563 * 48271 + 6043 * k + 174) (show (2147483543 : Int) ≠ 0 by decide)
      omega
    · have := Int.emod_lt_of_pos ((if c < 0 then -c else c) % 2147483563 * 48271 + 6043 * k + 174) (show (0 : Int) < 2147483543 by decide)
      omega
  · refine iteFd (by simpa using hk) ?_
    refine ⟨_, rfl, _, _, rfl, rfl, ⟨by decide, by decide, by decide⟩, _, _, rfl, rfl, _, _, rfl, ?_⟩
    refine ⟨_, rfl, .inl ⟨_, rfl, _, _, rfl, rfl, (by decide : (0 : Int) < 2147483563), _, _, rfl, rfl, .inr (by decide), _, rfl, _, _, rfl, rfl, .inl (by decide), _, _, rfl, rfl, _, _, rfl, rfl, .inl ⟨_, rfl, _, _, rfl, rfl, (by decide : (0 : Int) < 2147483543), _, _, rfl, rfl, sz2, fun p hp => ?_⟩⟩⟩
    refine q _ _ (same_new hp _) hp ⟨_, _, upd_same, ?_, ?_, ?_⟩
    · split <;> omega
    · have := Int.emod_nonneg ((233 * k + 84) % 2147483563 * 48271 + 6043 * k + 174) (show (2147483543 : Int) ≠ 0 by decide)
      omega
    · have := Int.emod_lt_of_pos ((233 * k + 84) % 2147483563 * 48271 + 6043 * k + 174) (show (0 : Int) < 2147483543 by decide)
      omega
abbrev s_law_term : Stmt := top 47
abbrev N_law_term : List Str := ["_law_pot_here", "_law_most", "_law_way", "_law_word", "_law_part", "_law_left", "_law_one", "_law_other", "_law_own_table", "_law_turn"]
theorem sc_law_term : FnScope N_law_term ["_law_pot_here", "_law_most"] (defScope s_law_term) := ⟨rfl, rfl, rfl, by decide +kernel, rfl, by decide +kernel, by decide +kernel⟩
theorem step_law_term {n : Nat} (F : Fun K "_law_term" "_law_term" s_law_term f fd) (T : Txt K mg aS a1 a2) (c__law_draw : C8.Cal P w K mg base 1 "_law_draw" spDraw []) (c__law_pick : C8.Cal P w K mg base 2 "_law_pick" spPick []) (c__law_term : C8.Cal P w K mg base (n + 3) "_law_term" (spTerm n) []) : FnOk P w K mg base CX0 (n + 4) f fd ["_law_pot_here", "_law_most"] (spTerm (n + 1)) := by
  refine F.ok sc_law_term (fun vs H Q E h => ?_) (fun cdv A outer s H vs Q E hr h => ?_)
  · obtain ⟨p, m, rfl, _⟩ := h
    rfl
  obtain ⟨p, m, rfl, p0, m1, mn, nn, q⟩ := h
  refine ⟨_, (pss_cons (ps_set (i := 2) sc_law_term.nd rfl (Or.inl rfl) (C8.pe_c c__law_draw hr (by omega) rfl (pa_cons (pv 0) (pa_cons pe_int pa_nil))))
        (pss_cons (ps_if (PW.pt (pw_or (pt_cmpR op_lt (pv 1) pe_int (nomark _)) (pw_or1 (pt_cmpR op_eq (pv 2) pe_int (nomark _)))))
        (pss_one (ps_ret pe_str))
        pss_nil)
        (pss_cons (ps_if (PW.pt (pw_or (pt_cmpR op_lt (pv 2) pe_int (nomark _)) (pw_or1 (pt_cmpR op_lt (pv 1) pe_int (nomark _)))))
        (pss_cons (ps_set (i := 3) sc_law_term.nd rfl (Or.inl rfl) (C8.pe_c c__law_pick hr (by omega) rfl (pa_cons (pv 0) (pa_cons (pe_lst (pa_cons pe_str (pa_cons pe_str (pa_cons pe_str (pa_cons pe_str (pa_cons pe_str (pa_cons pe_str pa_nil))))))) pa_nil))))
        (pss_cons (ps_set (i := 4) sc_law_term.nd rfl (Or.inl rfl) (C8.pe_c c__law_term hr (by omega) rfl (pa_cons (pv 0) (pa_cons (pe_op op_sub (pv 1) pe_int) pa_nil))))
        (pss_one (ps_ret (pe_ifExp (pt_cmpR op_eq (pv 3) pe_str (nomark _)) (pe_tup (pa_cons pe_str (pa_cons (C8.pe_c c__law_pick hr (by omega) rfl (pa_cons (pv 0) (pa_cons (pe_lst (pa_cons pe_str (pa_cons pe_str pa_nil))) pa_nil))) (pa_cons (pv 4) pa_nil)))) (pe_tup (pa_cons (pv 3) (pa_cons (pv 4) pa_nil))))))))
        pss_nil)
        (pss_cons (ps_set (i := 5) sc_law_term.nd rfl (Or.inl rfl) (pe_op op_add pe_int (C8.pe_c c__law_draw hr (by omega) rfl (pa_cons (pv 0) (pa_cons (pe_op op_sub (pv 1) pe_int) pa_nil)))))
        (pss_cons (ps_par (i := 6) (j := 7) rfl sc_law_term.nd rfl rfl (by decide) rfl rfl (pa_cons (C8.pe_c c__law_term hr (by omega) rfl (pa_cons (pv 0) (pa_cons (pv 5) pa_nil))) (pa_cons (C8.pe_c c__law_term hr (by omega) rfl (pa_cons (pv 0) (pa_cons (pe_op op_sub (pe_op op_sub (pv 1) pe_int) (pv 5)) pa_nil))) pa_nil)) rfl)
        (pss_cons (ps_set (i := 3) sc_law_term.nd rfl (Or.inl rfl) (C8.pe_c c__law_pick hr (by omega) rfl (pa_cons (pv 0) (pa_cons (pe_lst (pa_cons pe_str (pa_cons pe_str (pa_cons pe_str (pa_cons pe_str pa_nil))))) pa_nil))))
        (pss_cons (ps_if (pt_cmpR op_eq (pv 3) pe_str (nomark _))
        (pss_cons (ps_set (i := 8) sc_law_term.nd rfl (Or.inl rfl) (kJoin K rfl pe_str (pe_lc (own := [("_law_turn", 9)]) rfl sc_law_term.nd (pi_range1 rfl T.b_range (pa_cons pe_int pa_nil)) (blkOk_by (N := N_law_term) (sc := defScope s_law_term) (by decide +kernel)) (fun _ _ _ _ _ => (pg_name (i := 9) sc_law_term.nd rfl (Or.inl rfl))) (fun _ _ _ _ _ => pts_nil) (fun _ _ _ _ _ => (C8.pe_c c__law_pick hr (by omega) rfl (pa_cons (pv 0) (pa_cons (pe_lst (pa_cons pe_str (pa_cons pe_str pa_nil))) pa_nil)))))))
        (pss_one (ps_ret (pe_tup (pa_cons pe_str (pa_cons (C8.pe_c c__law_pick hr (by omega) rfl (pa_cons (pv 0) (pa_cons (pe_lst (pa_cons pe_str (pa_cons pe_str (pa_cons pe_str (pa_cons (pv 8) pa_nil))))) pa_nil))) (pa_cons (pv 6) (pa_cons (pv 7) pa_nil))))))))
        pss_nil)
        (pss_one (ps_ret (pe_tup (pa_cons (pv 3) (pa_cons (pv 6) (pa_cons (pv 7) pa_nil))))))))))))), ?_⟩
  refine ⟨_, rfl, p, _, rfl, p0, by decide, by decide, fun way H1 w0 w1 k1 p1 => ?_⟩
  have hIn : Q (.str "in") H1 := q _ .inn _ rfl (by show ((1 : Nat) : Int) ≤ m; omega) k1 p1
  refine ⟨_, rfl, _, _, rfl, rfl, _, rfl, ?_⟩
  by_cases c1 : m < 2
  · exact iteTd (by simpa using c1) (iteT hIn)
  refine iteFd (by simpa using c1) ⟨_, rfl, rfl, _, rfl, ?_⟩
  by_cases c1' : way = 0
  · exact iteTd (by rw [dec_int]; simpa using c1') hIn
  refine iteFd (by rw [dec_int]; simpa using c1') ?_
  have m2 : 2 ≤ m := by omega
  refine ⟨_, rfl, _, _, rfl, rfl, _, rfl, ?_⟩
  by_cases c2 : way < 7
  · refine iteTd (by simpa using c2) (iteT ?_)
    refine ⟨_, rfl, sz rfl, fun L hL => ⟨p, L, _, rfl, p1.same (same_new hL _), p1.ne hL, upd_same, by decide, by decide, fun x H2 hx k2 p2 => ?_⟩⟩
    refine ⟨_, rfl, _, rfl, _, _, rfl, rfl, p, _, rfl, p2, by omega, by omega, by omega, fun v t H3 ht hnt k3 p3 => ?_⟩
    have kk3 : Kp p H H3 := (k1.trans (kp_new hL _)).trans (k2.trans k3)
    refine ⟨_, rfl, ?_, _, rfl, ?_⟩
    · rcases w6 hx with ⟨w, rfl⟩ | rfl <;> rfl
    rcases w6 hx with ⟨w, rfl⟩ | rfl
    · refine iteFd (by cases w <;> decide +kernel) ?_
      refine ⟨_, rfl, _, rfl, sz rfl, fun T0 hT => ?_⟩
      exact q _ (.one w t) _ ⟨_, _, rfl, upd_same, ht.keep (Tups.of (same_new hT _))⟩ (by show ((t.nodes + 1 : Nat) : Int) ≤ m; omega) (kk3.trans (kp_new hT _)) (p3.same (same_new hT _))
    · refine iteTd (by decide +kernel) ?_
      refine ⟨_, rfl, sz rfl, fun L2 hL2 => ⟨p, L2, _, rfl, p3.same (same_new hL2 _), p3.ne hL2, upd_same, by decide, by decide, fun y H4 hy k4 p4 => ?_⟩⟩
      obtain ⟨b, rfl⟩ := w2 hy
      refine ⟨_, rfl, sz rfl, fun T0 hT => ?_⟩
      have tu : Tups H3 (upd H4 T0 (.tup [.str "late", .str (sgn b), v])) := (Tups.of (same_new hL2 _)).trans (((p3.same (same_new hL2 _)).tups k4).trans (Tups.of (same_new hT _)))
      exact q _ (.late b t) _ ⟨_, _, rfl, upd_same, ht.keep tu⟩ (by show ((t.nodes + 1 : Nat) : Int) ≤ m; omega) (kk3.trans ((kp_new hL2 _).trans (k4.trans (kp_new hT _)))) (p4.same (same_new hT _))
  refine iteFd (by simpa using c2) ⟨_, rfl, _, _, rfl, rfl, _, rfl, ?_⟩
  by_cases c3 : m < 3
  · refine iteTd (by simpa using c3) ?_
    refine ⟨_, rfl, sz rfl, fun L hL => ⟨p, L, _, rfl, p1.same (same_new hL _), p1.ne hL, upd_same, by decide, by decide, fun x H2 hx k2 p2 => ?_⟩⟩
    refine ⟨_, rfl, _, rfl, _, _, rfl, rfl, p, _, rfl, p2, by omega, by omega, by omega, fun v t H3 ht hnt k3 p3 => ?_⟩
    have kk3 : Kp p H H3 := (k1.trans (kp_new hL _)).trans (k2.trans k3)
    refine ⟨_, rfl, ?_, _, rfl, ?_⟩
    · rcases w6 hx with ⟨w, rfl⟩ | rfl <;> rfl
    rcases w6 hx with ⟨w, rfl⟩ | rfl
    · refine iteFd (by cases w <;> decide +kernel) ?_
      refine ⟨_, rfl, _, rfl, sz rfl, fun T0 hT => ?_⟩
      exact q _ (.one w t) _ ⟨_, _, rfl, upd_same, ht.keep (Tups.of (same_new hT _))⟩ (by show ((t.nodes + 1 : Nat) : Int) ≤ m; omega) (kk3.trans (kp_new hT _)) (p3.same (same_new hT _))
    · refine iteTd (by decide +kernel) ?_
      refine ⟨_, rfl, sz rfl, fun L2 hL2 => ⟨p, L2, _, rfl, p3.same (same_new hL2 _), p3.ne hL2, upd_same, by decide, by decide, fun y H4 hy k4 p4 => ?_⟩⟩
      obtain ⟨b, rfl⟩ := w2 hy
      refine ⟨_, rfl, sz rfl, fun T0 hT => ?_⟩
      have tu : Tups H3 (upd H4 T0 (.tup [.str "late", .str (sgn b), v])) := (Tups.of (same_new hL2 _)).trans (((p3.same (same_new hL2 _)).tups k4).trans (Tups.of (same_new hT _)))
      exact q _ (.late b t) _ ⟨_, _, rfl, upd_same, ht.keep tu⟩ (by show ((t.nodes + 1 : Nat) : Int) ≤ m; omega) (kk3.trans ((kp_new hL2 _).trans (k4.trans (kp_new hT _)))) (p4.same (same_new hT _))
  · refine iteFd (by simpa using c3) ?_
    refine ⟨_, rfl, _, rfl, _, _, rfl, rfl, p, _, rfl, p1, by omega, by omega, fun d H2 d0 d1 k2 p2 => ⟨_, _, rfl, rfl, ?_⟩⟩
    refine ⟨_, rfl, _, rfl, p, _, rfl, p2, by omega, by omega, by omega, fun v1 t1 H3 ht1 hn1 k3 p3 => ?_⟩
    refine ⟨_, rfl, _, rfl, _, _, rfl, rfl, _, rfl, _, _, rfl, rfl, p, _, rfl, p3, by omega, by omega, by omega, fun v2 t2 H4 ht2 hn2 k4 p4 => ⟨_, _, rfl, ?_⟩⟩
    have kk4 : Kp p H H4 := ((k1.trans k2).trans k3).trans k4
    have hn12 : (t1.nodes : Int) + t2.nodes + 1 ≤ m := by omega
    have ht1' := ht1.keep (p3.tups k4)
    refine ⟨_, rfl, sz rfl, fun L hL => ⟨p, L, _, rfl, p4.same (same_new hL _), p4.ne hL, upd_same, by decide, by decide, fun x H5 hx k5 p5 => ?_⟩⟩
    have tu5 : Tups H4 H5 := (Tups.of (same_new hL _)).trans ((p4.same (same_new hL _)).tups k5)
    have kk5 : Kp p H H5 := kk4.trans ((kp_new hL _).trans k5)
    refine ⟨_, rfl, ?_, _, rfl, ?_⟩
    · rcases w4 hx with rfl | rfl | rfl <;> rfl
    rcases w4 hx with rfl | rfl | rfl
    · refine iteTd (by decide +kernel) ?_
      refine ⟨⟨_, rfl⟩, 4, rfl, by decide, by decide, fun D hD => lc_it walk_range (fun i H' => ∃ bs : List Bool, bs.length = i ∧ H' D = some (.lst (bs.map vs)) ∧ Kp p H5 H' ∧ Pot p H') ⟨[], rfl, upd_same, kp_new hD _, p5.same (same_new hD _)⟩ (fun _ _ _ _ => trivial) ?_ ?_⟩
      · rintro i x H6 H7 hi ⟨bs, hbs, hd, kk, pp⟩ ⟨rfl, rfl⟩
        have hi4 : i < 4 := hi
        refine ⟨rfl, tyI ⟨_, rfl, sz rfl, fun L hL => ⟨p, L, _, rfl, pp.same (same_new hL _), pp.ne hL, upd_same, by decide, by decide, fun y H8 hy k8 p8 => ?_⟩⟩⟩
        obtain ⟨b, rfl⟩ := w2 hy
        refine ⟨_, k8 _ _ (p5.ne hD) (same_new hL _ _ _ hd), ?_, bs ++ [b], by simp [hbs], by rw [upd_same]; simp, kp_at (kk.trans ((kp_new hL _).trans k8)) hD, pot_at p8 (p5.ne hD)⟩
        rw [List.length_map]
        exact Nat.lt_of_lt_of_le (show bs.length < 100000 by omega) (by decide)
      · rintro H6 ⟨bs, hbs, hd, kk, pp⟩
        have hb4 : bs.length = 4 := hbs
        refine joinEnd hd (by omega) ?_
        refine ⟨_, rfl, _, rfl, sz rfl, fun L hL => ⟨p, L, _, rfl, pp.same (same_new hL _), pp.ne hL, upd_same, Nat.zero_lt_succ _, (by simp), fun y H7 hy k7 p7 => ?_⟩⟩
        obtain ⟨b1, b2, b3, b4, rfl⟩ := tb4 hb4 hy
        refine ⟨_, rfl, _, rfl, sz rfl, fun T0 hT => ?_⟩
        have tu : Tups H4 (upd H7 T0 (.tup [.str "by", .str (tx [b1, b2, b3, b4]), v1, v2])) := tu5.trans ((p5.tups kk).trans ((Tups.of (same_new hL _)).trans (((pp.same (same_new hL _)).tups k7).trans (Tups.of (same_new hT _)))))
        exact q _ (.byy b1 b2 b3 b4 t1 t2) _ ⟨_, _, _, rfl, upd_same, ht1'.keep tu, ht2.keep tu⟩ (by show ((t1.nodes + t2.nodes + 1 : Nat) : Int) ≤ m; omega) (kk5.trans (kk.trans ((kp_new hL _).trans (k7.trans (kp_new hT _))))) (p7.same (same_new hT _))
    · refine iteFd (by decide +kernel) ?_
      refine ⟨_, rfl, _, rfl, _, rfl, sz rfl, fun T0 hT => ?_⟩
      have tu : Tups H4 (upd H5 T0 (.tup [.str "keep", v1, v2])) := tu5.trans (Tups.of (same_new hT _))
      exact q _ (.keep t1 t2) _ ⟨_, _, _, rfl, upd_same, ht1'.keep tu, ht2.keep tu⟩ (by show ((t1.nodes + t2.nodes + 1 : Nat) : Int) ≤ m; omega) (kk5.trans (kp_new hT _)) (p5.same (same_new hT _))
    · refine iteFd (by decide +kernel) ?_
      refine ⟨_, rfl, _, rfl, _, rfl, sz rfl, fun T0 hT => ?_⟩
      have tu : Tups H4 (upd H5 T0 (.tup [.str "then", v1, v2])) := tu5.trans (Tups.of (same_new hT _))
      exact q _ (.thn t1 t2) _ ⟨_, _, _, rfl, upd_same, ht1'.keep tu, ht2.keep tu⟩ (by show ((t1.nodes + t2.nodes + 1 : Nat) : Int) ≤ m; omega) (kk5.trans (kp_new hT _)) (p5.same (same_new hT _))
theorem ok_law_term (F : Fun K "_law_term" "_law_term" s_law_term f fd) (T : Txt K mg aS a1 a2) (hm : mg "_law_term" = some (.ref f)) (hk : PySem.W.keepIn K (.ref f) = true) (hb : Binds K fd ["_law_pot_here", "_law_most"] []) (c__law_draw : C8.Cal P w K mg base 1 "_law_draw" spDraw []) (c__law_pick : C8.Cal P w K mg base 2 "_law_pick" spPick []) : ∀ n, C8.Cal P w K mg base (n + 3) "_law_term" (spTerm n) []
  | 0 => ⟨f, fd, _, [], ⟨by rintro vs H Q E ⟨p, m, rfl, _⟩; rfl, by
      rintro A outer s H args us vs Q E hr e0 hb r ⟨p, m, rfl, _, h1, h2, _⟩
      omega⟩, hm, hk, hb, .nil⟩
  | n + 1 => ⟨f, fd, _, [], step_law_term F T c__law_draw c__law_pick (ok_law_term F T hm hk hb c__law_draw c__law_pick n), hm, hk, hb, .nil⟩
abbrev s_law_stream : Stmt := top 50
abbrev N_law_stream : List Str := ["_law_pot_here", "_law_most", "_law_turn"]
theorem sc_law_stream : FnScope N_law_stream ["_law_pot_here", "_law_most"] (defScope s_law_stream) := ⟨rfl, rfl, rfl, by decide +kernel, rfl, by decide +kernel, by decide +kernel⟩
theorem ok_law_stream (F : Fun K "_law_stream" "_law_stream" s_law_stream f fd) (T : Txt K mg aS a1 a2) (c__law_draw : C8.Cal P w K mg base 1 "_law_draw" spDraw []) (c__law_pick : C8.Cal P w K mg base 2 "_law_pick" spPick []) : FnOk P w K mg base CX0 3 f fd ["_law_pot_here", "_law_most"] spStream := by
  refine F.ok sc_law_stream (fun vs H Q E h => ?_) (fun cdv A outer s H vs Q E hr h => ?_)
  · obtain ⟨p, m, rfl, _⟩ := h
    rfl
  obtain ⟨p, m, rfl, p0, m0, m1, q⟩ := h
  refine ⟨_, (pss_one (ps_ret (kJoin K rfl pe_str (pe_lc (own := [("_law_turn", 2)]) rfl sc_law_stream.nd (pi_range1 rfl T.b_range (pa_cons (C8.pe_c c__law_draw hr (by decide) rfl (pa_cons (pv 0) (pa_cons (pe_op op_add (pv 1) pe_int) pa_nil))) pa_nil)) (blkOk_by (N := N_law_stream) (sc := defScope s_law_stream) (by decide +kernel)) (fun _ _ _ _ _ => (pg_name (i := 2) sc_law_stream.nd rfl (Or.inl rfl))) (fun _ _ _ _ _ => pts_nil) (fun _ _ _ _ _ => (C8.pe_c c__law_pick hr (by decide) rfl (pa_cons (pv 0) (pa_cons (pe_lst (pa_cons pe_str (pa_cons pe_str pa_nil))) pa_nil)))))))), ?_⟩
  refine ⟨⟨_, rfl⟩, _, rfl, _, rfl, _, _, rfl, rfl, p, _, rfl, p0, by omega, by omega, fun d H5 d0 d1 k5 p5 => ?_⟩
  refine ⟨d, rfl, by omega, by omega, fun D hD => lc_it walk_range (fun i H' => ∃ bs : List Bool, bs.length = i ∧ H' D = some (.lst (bs.map vs)) ∧ Kp p H5 H' ∧ Pot p H') ⟨[], rfl, upd_same, kp_new hD _, p5.same (same_new hD _)⟩ (fun _ _ _ _ => trivial) ?_ ?_⟩
  · rintro i x H6 H7 hi ⟨bs, hbs, hd, kk, pp⟩ ⟨rfl, rfl⟩
    refine ⟨rfl, tyI ⟨_, rfl, sz rfl, fun L hL => ⟨p, L, _, rfl, pp.same (same_new hL _), pp.ne hL, upd_same, by decide, by decide, fun y H8 hy k8 p8 => ?_⟩⟩⟩
    obtain ⟨b, rfl⟩ := w2 hy
    refine ⟨_, k8 _ _ (p5.ne hD) (same_new hL _ _ _ hd), ?_, bs ++ [b], by simp [hbs], by rw [upd_same]; simp, kp_at (kk.trans ((kp_new hL _).trans k8)) hD, pot_at p8 (p5.ne hD)⟩
    rw [List.length_map]
    exact Nat.lt_of_lt_of_le (show bs.length < 100000 by omega) (by decide)
  · rintro H6 ⟨bs, hbs, hd, kk, pp⟩
    exact joinEnd hd (by omega) (q _ _ (by omega) (k5.trans kk) pp)
end
end FY


set_option Elab.async false
set_option linter.all false
set_option maxRecDepth 100000
set_option maxHeartbeats 4000000
namespace FY
open PySem L2 FYR
theorem kTupOf {X : Cx} (K : PySem.W.Frag) (hK : X.K = K) : CallR X (.type "tuple") (fun xs H Q => ∃ p ys, xs = [.ref p] ∧ ((SqL K H p ys ∧ ∀ l, H l = none → Q (.ref l) (upd H l (.tup ys))) ∨ (SqT K H p ys ∧ Q (.ref p) H))) := by subst hK; exact call_tuple_of
/-- the node t with other parts -/
def mapP (f : Tm → Tm) : Tm → Tm
  | .inn => .inn
  | .one w t => .one w (f t)
  | .late b t => .late b (f t)
  | .byy a b c d t u => .byy a b c d (f t) (f u)
  | .keep t u => .keep (f t) (f u)
  | .thn t u => .thn (f t) (f u)
theorem put_map (o : Tm) {t : Tm} (h : t.isIn = false) (h2 : t.isThn = false) : put t o = mapP (fun u => put u o) t := by
  cases t with
  | inn => cases h
  | thn _ _ => cases h2
  | _ => rfl
theorem plain_map {t : Tm} (h2 : t.isThn = false) : plain t = mapP plain t := by
  cases t with
  | thn _ _ => cases h2
  | _ => rfl
theorem ta_mk {H : Hp} {t : Tm} {f : Tm → Tm} {p : Addr} {us : List V} (h : t.isIn = false) (hp : H p = some (.tup (.str t.word :: (t.extra.map V.str ++ us)))) (hu : Paired (TA H) us (t.parts.map f)) : TA H (.ref p) (mapP f t) := by
  cases t with
  | inn => cases h
  | one w t => cases hu with | cons r q => cases q; exact ⟨_, _, rfl, hp, r⟩
  | late b t => cases hu with | cons r q => cases q; exact ⟨_, _, rfl, hp, r⟩
  | byy a b c d t u => cases hu with | cons r q => cases q with | cons r2 q2 => cases q2; exact ⟨_, _, _, rfl, hp, r, r2⟩
  | keep t u => cases hu with | cons r q => cases q with | cons r2 q2 => cases q2; exact ⟨_, _, _, rfl, hp, r, r2⟩
  | thn t u => cases hu with | cons r q => cases q with | cons r2 q2 => cases q2; exact ⟨_, _, _, rfl, hp, r, r2⟩
theorem parts_some {t : Tm} (h : t.isIn = false) : 1 ≤ t.parts.length := by
  cases t with
  | inn => cases h
  | _ => simp [Tm.parts]
theorem cutTo (xs : List V) (k : Nat) : cutV xs none (some (k : Int)) = xs.take k := by
  unfold cutV
  rw [HT.sIx_none, HT.sIx_nat]
  simp only [List.drop_zero, Nat.sub_zero]
  by_cases h : k ≤ xs.length
  · rw [Nat.min_eq_left h]
  · rw [Nat.min_eq_right (by omega), List.take_of_length_le (Nat.le_refl _), List.take_of_length_le (by omega)]
def spWithParts : Sp := fun vs H Q _ => ∃ v t L ws, vs = [v, .ref L] ∧ TA H v t ∧ t.isIn = false ∧ t.dep ≤ 60 ∧ H L = some (.lst ws) ∧ ws.length = t.parts.length ∧ ∀ H' p, Same H H' → H' p = some (.tup (.str t.word :: (t.extra.map V.str ++ ws))) → Q (.ref p) H'
def spPutBy (n : Nat) : Sp := fun vs H Q _ => ∃ v t vo o, vs = [v, vo] ∧ TA H v t ∧ TA H vo o ∧ t.dep ≤ n ∧ t.dep ≤ 60 ∧ ∀ H' r, Same H H' → TA H' r (put t o) → Q r H'
def spPlainBy (n : Nat) : Sp := fun vs H Q _ => ∃ v t, vs = [v] ∧ TA H v t ∧ t.nodes ≤ n ∧ t.nodes ≤ 20 ∧ ∀ H' r, Same H H' → TA H' r (plain t) → Q r H'
section
variable {P : Program} {w : World} {K : PySem.W.Frag} {mg : Str → Option Value} {base : Heap} {aS a1 a2 : Addr} {f : Addr} {fd : FuncData}
abbrev s_with_parts : Stmt := top 25
abbrev N_with_parts : List Str := ["term", "parts"]
theorem sc_with_parts : FnScope N_with_parts ["term", "parts"] (defScope s_with_parts) := ⟨rfl, rfl, rfl, by decide +kernel, rfl, by decide +kernel, by decide +kernel⟩
theorem ok_with_parts (F : Fun K "with_parts" "with_parts" s_with_parts f fd) (T : Txt K mg aS a1 a2) : FnOk P w K mg base CX0 1 f fd ["term", "parts"] spWithParts := by
  refine F.ok sc_with_parts (fun vs H Q E h => ?_) (fun cdv A outer s H vs Q E hr h => ?_)
  · obtain ⟨b, t, L, ws, rfl, _⟩ := h
    rfl
  obtain ⟨v, t, L, ws, rfl, ta, hin, hd, hL, hw, q⟩ := h
  refine ⟨_, (pss_cons (ps_if (pt_cmpR (kEqD K rfl hr.units) (pv 0) (C8.pe_gc rfl T.g_IN) (nomark _))
        (pss_one (ps_ret (pv 0)))
        pss_nil)
        (pss_one (ps_ret (pe_op (kCatT K rfl) (pe_slice (kSlT K rfl) (pv 0) po_none (po_some (pe_op op_sub (pe_callB (kLen K rfl) rfl T.b_len bt_len (pa_cons (pv 0) pa_nil)) (pe_callB (kLen K rfl) rfl T.b_len bt_len (pa_cons (pv 1) pa_nil))))) (pe_callTy (kTupOf K rfl) rfl T.b_tuple bt_tuple (pa_cons (pv 1) pa_nil)))))), ?_⟩
  refine ⟨_, rfl, _, _, ta.dp, .str _, shp_dep hd, shp_in, _, rfl, iteFd (by rw [eqv_in, hin]) ?_⟩
  obtain ⟨a, us, rfl, ha, hpa⟩ := ta.node hin
  have hul := paired_len hpa
  have h1 := parts_some hin
  have hx := extra_le t
  have h2 := parts_few t
  have hlen : (V.str t.word :: (t.extra.map V.str ++ us)).length = t.extra.length + us.length + 1 := by simp
  have hk : (((V.str t.word :: (t.extra.map V.str ++ us)).length : Int) - (ws.length : Int)) = ((t.extra.length + 1 : Nat) : Int) := by rw [hlen]; omega
  refine ⟨_, rfl, _, rfl, _, _, rfl, .inr (SqT.of ha), _, rfl, _, _, rfl, .inl (SqL.of hL), _, _, rfl, rfl, _, rfl, _, _, rfl, SqT.of ha, ?_, fun p hp => ?_⟩
  · simp only [hk]
    rw [HT.sIx_nat, hlen]
    omega
  simp only [hk]
  rw [cutTo, show (V.str t.word :: (t.extra.map V.str ++ us)).take (t.extra.length + 1) = V.str t.word :: t.extra.map V.str by
    rw [List.take_succ_cons, List.take_append_of_le_length (by simp), List.take_of_length_le (by simp)]]
  have k0 := same_new hp (.tup (V.str t.word :: t.extra.map V.str))
  refine ⟨_, rfl, _, _, rfl, .inl ⟨SqL.of (k0 _ _ hL), fun l hl => ?_⟩⟩
  have k1 := same_new hl (.tup ws)
  refine ⟨_, _, _, _, rfl, rfl, SqT.of (k1 _ _ upd_same), SqT.of upd_same, by simp, ?_, fun z => ?_, fun _ p' hp' => ?_⟩
  · exact small5 (by simp; omega)
  · rw [z] at hw
    simp at hw
    omega
  · refine q _ _ ((k0.trans' k1).trans' (same_new hp' _)) ?_
    rw [upd_same]
    simp
abbrev s_nodes_of : Stmt := top 29
abbrev N_nodes_of : List Str := ["term", "part"]
theorem sc_nodes_of : FnScope N_nodes_of ["term"] (defScope s_nodes_of) := ⟨rfl, rfl, rfl, by decide +kernel, rfl, by decide +kernel, by decide +kernel⟩
theorem step_nodes_of {n : Nat} (F : Fun K "nodes_of" "nodes_of" s_nodes_of f fd) (T : Txt K mg aS a1 a2) (c_parts_of : C8.Cal P w K mg base 1 "parts_of" spPartsOf []) (c_nodes_of : C8.Cal P w K mg base (n + 1) "nodes_of" (spNodes n) []) : FnOk P w K mg base CX0 (n + 2) f fd ["term"] (spNodes (n + 1)) := by
  refine F.ok sc_nodes_of (fun vs H Q E h => ?_) (fun cdv A outer s H vs Q E hr h => ?_)
  · obtain ⟨b, t, rfl, _⟩ := h
    rfl
  obtain ⟨v, t, rfl, ta, hn, h9, q⟩ := h
  refine ⟨_, (pss_one (ps_ret (pe_op op_add pe_int (pe_callB (kSum K rfl rfl) rfl T.b_sum bt_sum (pa_cons (pe_lc (own := [("part", 1)]) rfl sc_nodes_of.nd (kTup K rfl (C8.pe_c c_parts_of hr (by omega) rfl (pa_cons (pv 0) pa_nil))) (blkOk_by (N := N_nodes_of) (sc := defScope s_nodes_of) (by decide +kernel)) (fun _ _ _ _ _ => (pg_name (i := 1) sc_nodes_of.nd rfl (Or.inl rfl))) (fun _ _ _ _ _ => pts_nil) (fun _ _ _ _ _ => (C8.pe_c c_nodes_of hr (by omega) rfl (pa_cons (pv 1) pa_nil)))) pa_nil))))), ?_⟩
  refine ⟨_, rfl, _, t, rfl, ta, by omega, fun H1 p ws s1 hp1 pr1 => ?_⟩
  have hwl := paired_len pr1
  have h2 := parts_few t
  have hsp := sumN_parts t
  refine ⟨_, rfl, ⟨_, SqT.of hp1⟩, fun D hD => lc_it walk_tup (fun i H' => Same H1 H' ∧ H' D = some (.lst (((t.parts.take i).map fun u => (u.nodes : Int)).map V.int))) ⟨same_new hD _, upd_same⟩ (fun i H' _ z => SqT.of (z.1 _ _ hp1)) ?_ ?_⟩
  · rintro i x H3 H4 hi ⟨sm3, hd3⟩ ⟨rfl, hx⟩
    obtain ⟨u, hu, hxu⟩ := paired_get pr1 hx
    have hun := parts_dep (List.mem_of_getElem? hu)
    have hil := lt_len hu
    refine ⟨rfl, tyI ⟨_, rfl, _, u, rfl, hxu.keep (Tups.of sm3), by omega, by omega, fun H5 s5 => ?_⟩⟩
    refine ⟨_, s5 _ _ hd3, ?_, same_at (sm3.trans' s5) hD, ?_⟩
    · rw [List.length_map]
      exact take_len_le _ _ _ (by omega)
    · rw [upd_same, ← take_one _ hu]
      simp
  · rintro H3 ⟨sm3, hd3⟩
    rw [hwl, List.take_of_length_le (Nat.le_refl _)] at hd3
    refine ⟨_, _, rfl, SqL.of hd3, _, _, rfl, rfl, ?_⟩
    rw [sum_nodes]
    have e : (1 : Int) + (sumN t.parts : Int) = (t.nodes : Int) := by omega
    have z := q _ (s1.trans' sm3)
    rw [← e] at z
    exact z
theorem ok_nodes_of (F : Fun K "nodes_of" "nodes_of" s_nodes_of f fd) (T : Txt K mg aS a1 a2) (hm : mg "nodes_of" = some (.ref f)) (hk : PySem.W.keepIn K (.ref f) = true) (hb : Binds K fd ["term"] []) (c_parts_of : C8.Cal P w K mg base 1 "parts_of" spPartsOf []) : ∀ n, C8.Cal P w K mg base (n + 1) "nodes_of" (spNodes n) []
  | 0 => ⟨f, fd, _, [], ⟨by rintro vs H Q E ⟨b, t, rfl, _⟩; rfl, by
      rintro A outer s H args us vs Q E hr e0 hb r ⟨b, t, rfl, _, hn, _⟩
      have := t.dep_pos
      omega⟩, hm, hk, hb, .nil⟩
  | n + 1 => ⟨f, fd, _, [], step_nodes_of F T c_parts_of (ok_nodes_of F T hm hk hb c_parts_of n), hm, hk, hb, .nil⟩
abbrev s_put_by : Stmt := top 38
abbrev N_put_by : List Str := ["term", "other", "part"]
theorem sc_put_by : FnScope N_put_by ["term", "other"] (defScope s_put_by) := ⟨rfl, rfl, rfl, by decide +kernel, rfl, by decide +kernel, by decide +kernel⟩
theorem step_put_by {n : Nat} (F : Fun K "put_by" "put_by" s_put_by f fd) (T : Txt K mg aS a1 a2) (c_parts_of : C8.Cal P w K mg base 1 "parts_of" spPartsOf []) (c_with_parts : C8.Cal P w K mg base 1 "with_parts" spWithParts []) (c_put_by : C8.Cal P w K mg base (n + 1) "put_by" (spPutBy n) []) : FnOk P w K mg base CX0 (n + 2) f fd ["term", "other"] (spPutBy (n + 1)) := by
  refine F.ok sc_put_by (fun vs H Q E h => ?_) (fun cdv A outer s H vs Q E hr h => ?_)
  · obtain ⟨b, t, vo, o, rfl, _⟩ := h
    rfl
  obtain ⟨v, t, vo, o, rfl, ta, to, hn, h9, q⟩ := h
  refine ⟨_, (pss_cons (ps_if (pt_cmpR (kEqD K rfl hr.units) (pv 0) (C8.pe_gc rfl T.g_IN) (nomark _))
        (pss_one (ps_ret (pv 1)))
        pss_nil)
        (pss_cons (ps_if (pt_cmpR op_eq (pe_ix (kIxT K rfl) (pv 0) pe_int (fun _ _ => rfl)) (C8.pe_gc rfl T.g_THEN) (nomark _))
        (pss_one (ps_ret (pe_tup (pa_cons (C8.pe_gc rfl T.g_THEN) (pa_cons (C8.pe_c c_put_by hr (by omega) rfl (pa_cons (pe_ix (kIxT K rfl) (pv 0) pe_int (fun _ _ => rfl)) (pa_cons (pv 1) pa_nil))) (pa_cons (pe_ix (kIxT K rfl) (pv 0) pe_int (fun _ _ => rfl)) pa_nil))))))
        pss_nil)
        (pss_one (ps_ret (C8.pe_c c_with_parts hr (by omega) rfl (pa_cons (pv 0) (pa_cons (pe_lc (own := [("part", 2)]) rfl sc_put_by.nd (kTup K rfl (C8.pe_c c_parts_of hr (by omega) rfl (pa_cons (pv 0) pa_nil))) (blkOk_by (N := N_put_by) (sc := defScope s_put_by) (by decide +kernel)) (fun _ _ _ _ _ => (pg_name (i := 2) sc_put_by.nd rfl (Or.inl rfl))) (fun _ _ _ _ _ => pts_nil) (fun _ _ _ _ _ => (C8.pe_c c_put_by hr (by omega) rfl (pa_cons (pv 2) (pa_cons (pv 1) pa_nil))))) pa_nil))))))), ?_⟩
  refine ⟨_, rfl, _, _, ta.dp, .str _, shp_dep h9, shp_in, _, rfl, ?_⟩
  rw [eqv_in]
  cases hin : t.isIn with
  | true =>
    have e : t = .inn := by cases t <;> first | rfl | cases hin
    subst e
    exact iteT ⟨_, rfl, q _ _ (Same.refl _) to⟩
  | false =>
    refine iteF ?_
    obtain ⟨a, us, rfl, ha, hpa⟩ := ta.node hin
    refine ⟨_, rfl, _, _, _, _, rfl, rfl, SqT.of ha, at0, rfl, _, rfl, ?_⟩
    rw [word_then]
    cases hth : t.isThn with
    | true =>
      refine iteT ?_
      cases t with
      | thn t u =>
        cases hpa with
        | @cons x1 _ _ _ r1 q1 =>
        cases q1 with
        | @cons x2 _ _ _ r2 q2 =>
        cases q2 with
        | nil =>
        have hnd : (Tm.thn t u).dep = max t.dep u.dep + 1 := rfl
        refine ⟨_, rfl, _, _, _, _, rfl, rfl, SqT.of ha, rfl, _, rfl, _, t, _, o, rfl, r1, to, by omega, by omega, fun H1 r s1 tr => ?_⟩
        refine ⟨_, rfl, _, _, _, _, rfl, rfl, SqT.of (s1 _ _ ha), rfl, sz rfl, fun p hp => ?_⟩
        exact q _ _ (s1.trans' (same_new hp _)) ⟨_, _, _, rfl, upd_same, tr.keep (Tups.of (same_new hp _)), r2.keep (Tups.of (s1.trans' (same_new hp _)))⟩
      | _ => cases hth
    | false =>
      refine iteF ?_
      have hf := parts_few t
      refine ⟨_, rfl, _, rfl, _, t, rfl, ta, by omega, fun H1 p ws s1 hp1 pr1 => ?_⟩
      have hwl := paired_len pr1
      refine ⟨_, rfl, ⟨_, SqT.of hp1⟩, fun D hD => lc_it walk_tup (fun i H' => Same H1 H' ∧ ∃ us', H' D = some (.lst us') ∧ Paired (TA H') us' ((t.parts.take i).map fun u => put u o)) ⟨same_new hD _, [], upd_same, .nil⟩ (fun i H' _ z => SqT.of (z.1 _ _ hp1)) ?_ ?_⟩
      · rintro i x H2 H3 hi ⟨sm, us', hd, pu⟩ ⟨rfl, hx⟩
        obtain ⟨u, hu, hxu⟩ := paired_get pr1 hx
        have hun := parts_dep (List.mem_of_getElem? hu)
        have hil := lt_len hu
        refine ⟨rfl, tyI ⟨_, rfl, _, rfl, _, u, _, o, rfl, hxu.keep (Tups.of sm), to.keep (Tups.of (s1.trans' sm)), by omega, by omega, fun H4 r s4 tr => ?_⟩⟩
        have hlu := paired_len pu
        have tu : Tups H3 (upd H4 D (.lst (us' ++ [r]))) := (Tups.of s4).trans (tups_at (s4 _ _ hd))
        refine ⟨_, s4 _ _ hd, ?_, same_at (sm.trans' s4) hD, us' ++ [r], upd_same, ?_⟩
        · rw [List.length_map, List.length_take] at hlu
          exact Nat.lt_of_lt_of_le (show us'.length < 100000 by omega) (by decide)
        · rw [← take_one _ hu]
          exact paired_app (paired_keep tu pu) (.cons (tr.keep (tups_at (s4 _ _ hd))) .nil)
      · rintro H2 ⟨sm, us', hd, pu⟩
        rw [hwl, List.take_of_length_le (Nat.le_refl _)] at pu
        have hlu := paired_len pu
        rw [List.length_map] at hlu
        refine ⟨_, t, D, us', rfl, ta.keep (Tups.of (s1.trans' sm)), hin, by omega, hd, hlu, fun H3 p3 s3 hp3 => ?_⟩
        refine q _ _ ((s1.trans' sm).trans' s3) ?_
        rw [put_map o hin hth]
        exact ta_mk hin hp3 (paired_keep (Tups.of s3) pu)
theorem ok_put_by (F : Fun K "put_by" "put_by" s_put_by f fd) (T : Txt K mg aS a1 a2) (hm : mg "put_by" = some (.ref f)) (hk : PySem.W.keepIn K (.ref f) = true) (hb : Binds K fd ["term", "other"] []) (c_parts_of : C8.Cal P w K mg base 1 "parts_of" spPartsOf []) (c_with_parts : C8.Cal P w K mg base 1 "with_parts" spWithParts []) : ∀ n, C8.Cal P w K mg base (n + 1) "put_by" (spPutBy n) []
  | 0 => ⟨f, fd, _, [], ⟨by rintro vs H Q E ⟨b, t, vo, o, rfl, _⟩; rfl, by
      rintro A outer s H args us vs Q E hr e0 hb r ⟨b, t, vo, o, rfl, _, _, hn, _⟩
      have := t.dep_pos
      omega⟩, hm, hk, hb, .nil⟩
  | n + 1 => ⟨f, fd, _, [], step_put_by F T c_parts_of c_with_parts (ok_put_by F T hm hk hb c_parts_of c_with_parts n), hm, hk, hb, .nil⟩
abbrev s_plain_by : Stmt := top 41
abbrev N_plain_by : List Str := ["term", "part"]
theorem sc_plain_by : FnScope N_plain_by ["term"] (defScope s_plain_by) := ⟨rfl, rfl, rfl, by decide +kernel, rfl, by decide +kernel, by decide +kernel⟩
theorem step_plain_by {n : Nat} (F : Fun K "plain_by" "plain_by" s_plain_by f fd) (T : Txt K mg aS a1 a2) (c_parts_of : C8.Cal P w K mg base 1 "parts_of" spPartsOf []) (c_with_parts : C8.Cal P w K mg base 1 "with_parts" spWithParts []) (c_put_by : C8.Cal P w K mg base 21 "put_by" (spPutBy 20) []) (c_plain_by : C8.Cal P w K mg base (n + 22) "plain_by" (spPlainBy n) []) : FnOk P w K mg base CX0 (n + 23) f fd ["term"] (spPlainBy (n + 1)) := by
  refine F.ok sc_plain_by (fun vs H Q E h => ?_) (fun cdv A outer s H vs Q E hr h => ?_)
  · obtain ⟨b, t, rfl, _⟩ := h
    rfl
  obtain ⟨v, t, rfl, ta, hn, h9, q⟩ := h
  refine ⟨_, (pss_cons (ps_if (pt_cmpR (kEqD K rfl hr.units) (pv 0) (C8.pe_gc rfl T.g_IN) (nomark _))
        (pss_one (ps_ret (pv 0)))
        pss_nil)
        (pss_cons (ps_if (pt_cmpR op_eq (pe_ix (kIxT K rfl) (pv 0) pe_int (fun _ _ => rfl)) (C8.pe_gc rfl T.g_THEN) (nomark _))
        (pss_one (ps_ret (C8.pe_c c_put_by hr (by omega) rfl (pa_cons (C8.pe_c c_plain_by hr (by omega) rfl (pa_cons (pe_ix (kIxT K rfl) (pv 0) pe_int (fun _ _ => rfl)) pa_nil)) (pa_cons (C8.pe_c c_plain_by hr (by omega) rfl (pa_cons (pe_ix (kIxT K rfl) (pv 0) pe_int (fun _ _ => rfl)) pa_nil)) pa_nil)))))
        pss_nil)
        (pss_one (ps_ret (C8.pe_c c_with_parts hr (by omega) rfl (pa_cons (pv 0) (pa_cons (pe_lc (own := [("part", 1)]) rfl sc_plain_by.nd (kTup K rfl (C8.pe_c c_parts_of hr (by omega) rfl (pa_cons (pv 0) pa_nil))) (blkOk_by (N := N_plain_by) (sc := defScope s_plain_by) (by decide +kernel)) (fun _ _ _ _ _ => (pg_name (i := 1) sc_plain_by.nd rfl (Or.inl rfl))) (fun _ _ _ _ _ => pts_nil) (fun _ _ _ _ _ => (C8.pe_c c_plain_by hr (by omega) rfl (pa_cons (pv 1) pa_nil)))) pa_nil))))))), ?_⟩
  refine ⟨_, rfl, _, _, ta.dp, .str _, shp_tm (by omega), shp_in, _, rfl, ?_⟩
  rw [eqv_in]
  cases hin : t.isIn with
  | true =>
    have e : t = .inn := by cases t <;> first | rfl | cases hin
    subst e
    exact iteT ⟨_, rfl, q _ _ (Same.refl _) ta⟩
  | false =>
    refine iteF ?_
    obtain ⟨a, us, rfl, ha, hpa⟩ := ta.node hin
    refine ⟨_, rfl, _, _, _, _, rfl, rfl, SqT.of ha, at0, rfl, _, rfl, ?_⟩
    rw [word_then]
    cases hth : t.isThn with
    | true =>
      refine iteT ?_
      cases t with
      | thn t u =>
        cases hpa with
        | @cons x1 _ _ _ r1 q1 =>
        cases q1 with
        | @cons x2 _ _ _ r2 q2 =>
        cases q2 with
        | nil =>
        have hnd : (Tm.thn t u).nodes = t.nodes + u.nodes + 1 := rfl
        have := t.nodes_pos
        have := u.nodes_pos
        refine ⟨_, rfl, _, _, _, _, rfl, rfl, SqT.of ha, rfl, _, u, rfl, r2, by omega, by omega, fun H1 ru s1 tu => ?_⟩
        refine ⟨_, rfl, _, _, _, _, rfl, rfl, SqT.of (s1 _ _ ha), rfl, _, t, rfl, r1.keep (Tups.of s1), by omega, by omega, fun H2 rt s2 tt => ?_⟩
        have hdp := dep_plain u
        exact ⟨_, plain u, _, plain t, rfl, tu.keep (Tups.of s2), tt, by omega, by omega, fun H3 r s3 tr => q _ _ ((s1.trans' s2).trans' s3) tr⟩
      | _ => cases hth
    | false =>
      refine iteF ?_
      have hf := parts_few t
      have hdn := t.dep_le
      refine ⟨_, rfl, _, rfl, _, t, rfl, ta, by omega, fun H1 p ws s1 hp1 pr1 => ?_⟩
      have hwl := paired_len pr1
      refine ⟨_, rfl, ⟨_, SqT.of hp1⟩, fun D hD => lc_it walk_tup (fun i H' => Same H1 H' ∧ ∃ us', H' D = some (.lst us') ∧ Paired (TA H') us' ((t.parts.take i).map plain)) ⟨same_new hD _, [], upd_same, .nil⟩ (fun i H' _ z => SqT.of (z.1 _ _ hp1)) ?_ ?_⟩
      · rintro i x H2 H3 hi ⟨sm, us', hd, pu⟩ ⟨rfl, hx⟩
        obtain ⟨u, hu, hxu⟩ := paired_get pr1 hx
        have hun := parts_nodes (List.mem_of_getElem? hu)
        have hil := lt_len hu
        refine ⟨rfl, tyI ⟨_, rfl, _, u, rfl, hxu.keep (Tups.of sm), by omega, by omega, fun H4 r s4 tr => ?_⟩⟩
        have hlu := paired_len pu
        have tu : Tups H3 (upd H4 D (.lst (us' ++ [r]))) := (Tups.of s4).trans (tups_at (s4 _ _ hd))
        refine ⟨_, s4 _ _ hd, ?_, same_at (sm.trans' s4) hD, us' ++ [r], upd_same, ?_⟩
        · rw [List.length_map, List.length_take] at hlu
          exact Nat.lt_of_lt_of_le (show us'.length < 100000 by omega) (by decide)
        · rw [← take_one _ hu]
          exact paired_app (paired_keep tu pu) (.cons (tr.keep (tups_at (s4 _ _ hd))) .nil)
      · rintro H2 ⟨sm, us', hd, pu⟩
        rw [hwl, List.take_of_length_le (Nat.le_refl _)] at pu
        have hlu := paired_len pu
        rw [List.length_map] at hlu
        refine ⟨_, t, D, us', rfl, ta.keep (Tups.of (s1.trans' sm)), hin, by omega, hd, hlu, fun H3 p3 s3 hp3 => ?_⟩
        refine q _ _ ((s1.trans' sm).trans' s3) ?_
        rw [plain_map hth]
        exact ta_mk hin hp3 (paired_keep (Tups.of s3) pu)
theorem ok_plain_by (F : Fun K "plain_by" "plain_by" s_plain_by f fd) (T : Txt K mg aS a1 a2) (hm : mg "plain_by" = some (.ref f)) (hk : PySem.W.keepIn K (.ref f) = true) (hb : Binds K fd ["term"] []) (c_parts_of : C8.Cal P w K mg base 1 "parts_of" spPartsOf []) (c_with_parts : C8.Cal P w K mg base 1 "with_parts" spWithParts []) (c_put_by : C8.Cal P w K mg base 21 "put_by" (spPutBy 20) []) : ∀ n, C8.Cal P w K mg base (n + 22) "plain_by" (spPlainBy n) []
  | 0 => ⟨f, fd, _, [], ⟨by rintro vs H Q E ⟨b, t, rfl, _⟩; rfl, by
      rintro A outer s H args us vs Q E hr e0 hb r ⟨b, t, rfl, _, hn, _⟩
      have := t.nodes_pos
      omega⟩, hm, hk, hb, .nil⟩
  | n + 1 => ⟨f, fd, _, [], step_plain_by F T c_parts_of c_with_parts c_put_by (ok_plain_by F T hm hk hb c_parts_of c_with_parts c_put_by n), hm, hk, hb, .nil⟩
end
end FY


set_option Elab.async false
set_option linter.all false
set_option maxRecDepth 100000
set_option maxHeartbeats 4000000
namespace FY
open PySem L2 FYR
theorem szn {n : Nat} (h : Nat.ble n 10 = true) : n ≤ sizeLine := Nat.le_trans (Nat.le_of_ble_eq_true h) (by decide)
theorem nwe {a b : Nat} (h : a ≠ b) : ¬ ((0 : Nat) = 0 ∧ a = b) := fun z => h z.2
theorem oIw (w : W1) : (if false = true then !inV (.str w.s) [.str "by", .str "keep"] else inV (.str w.s) [.str "by", .str "keep"]) = false := by cases w <;> decide +kernel
theorem oIl : (if false = true then !inV (.str "late") [.str "by", .str "keep"] else inV (.str "late") [.str "by", .str "keep"]) = false := by decide +kernel
theorem oIb : (if false = true then !inV (.str "by") [.str "by", .str "keep"] else inV (.str "by") [.str "by", .str "keep"]) = true := by decide +kernel
theorem oIk : (if false = true then !inV (.str "keep") [.str "by", .str "keep"] else inV (.str "keep") [.str "by", .str "keep"]) = true := by decide +kernel
/-- what is due of a term: itself, or that it has too many nodes -/
def Due (H : Hp) (v : V) (t : Tm) : Prop := (t.nodes < 10 ∧ TA H v t) ∨ (10 ≤ t.nodes ∧ ∃ L, v = .ref L ∧ H L = some (.lst [.str "nodes", .int 9]))
def dueD (t : Tm) : PyData := if t.nodes < 10 then t.data else .list [.str "nodes", .int 9]
theorem Due.dp {K : PySem.W.Frag} {H : Hp} {v : V} {t : Tm} (h : Due H v t) : Dp K H v (dueD t) := by
  unfold dueD
  rcases h with ⟨h, ta⟩ | ⟨h, L, rfl, e⟩
  · rw [if_pos h]; exact ta.dp
  · rw [if_neg (by omega)]; exact .lst (SqL.of e) (.cons (.str _) (.cons (.int _) .nil))
theorem shp_due (t : Tm) : SeqAt.shaped (dueD t) = true := by
  unfold dueD
  by_cases h : t.nodes < 10
  · rw [if_pos h]; exact shp_tm (by omega)
  · rw [if_neg h]; decide +kernel
theorem Due.keep {H H' : Hp} {v : V} {t : Tm} (h : Due H v t) (k : Tups H H') (kl : ∀ a xs, H a = some (.lst xs) → v = .ref a → H' a = some (.lst xs)) : Due H' v t := by
  rcases h with ⟨h, ta⟩ | ⟨h, L, rfl, e⟩
  · exact .inl ⟨h, ta.keep k⟩
  · exact .inr ⟨h, L, rfl, kl _ _ e rfl⟩
def spDue : Sp := fun vs H Q _ => ∃ v t, vs = [v] ∧ TA H v t ∧ t.dep ≤ 50 ∧ ∀ H' r, Same H H' → Due H' r t → Q r H'
section
variable {P : Program} {w : World} {K : PySem.W.Frag} {mg : Str → Option Value} {base : Heap} {aS a1 a2 : Addr} {f : Addr} {fd : FuncData}
abbrev s_law_put_in : Stmt := top 52
abbrev N_law_put_in : List Str := ["_law_term_here", "_law_other"]
theorem sc_law_put_in : FnScope N_law_put_in ["_law_term_here", "_law_other"] (defScope s_law_put_in) := ⟨rfl, rfl, rfl, by decide +kernel, rfl, by decide +kernel, by decide +kernel⟩
theorem step_law_put_in {n : Nat} (F : Fun K "_law_put_in" "_law_put_in" s_law_put_in f fd) (T : Txt K mg aS a1 a2) (c__law_put_in : C8.Cal P w K mg base (n + 1) "_law_put_in" (spPutBy n) []) : FnOk P w K mg base CX0 (n + 2) f fd ["_law_term_here", "_law_other"] (spPutBy (n + 1)) := by
  refine F.ok sc_law_put_in (fun vs H Q E h => ?_) (fun cdv A outer s H vs Q E hr h => ?_)
  · obtain ⟨b, t, vo, o, rfl, _⟩ := h
    rfl
  obtain ⟨v, t, vo, o, rfl, ta, to, hn, h9, q⟩ := h
  refine ⟨_, (pss_cons (ps_if (pt_cmpR (kEqD K rfl hr.units) (pv 0) pe_str (nomark _))
        (pss_one (ps_ret (pv 1)))
        pss_nil)
        (pss_cons (ps_if (pt_cmpR op_eq (pe_ix (kIxT K rfl) (pv 0) pe_int (fun _ _ => rfl)) pe_str (nomark _))
        (pss_one (ps_ret (pe_tup (pa_cons pe_str (pa_cons (C8.pe_c c__law_put_in hr (by omega) rfl (pa_cons (pe_ix (kIxT K rfl) (pv 0) pe_int (fun _ _ => rfl)) (pa_cons (pv 1) pa_nil))) (pa_cons (pe_ix (kIxT K rfl) (pv 0) pe_int (fun _ _ => rfl)) pa_nil))))))
        pss_nil)
        (pss_cons (ps_if (pt_cmpR (kIn K rfl) (pe_ix (kIxT K rfl) (pv 0) pe_int (fun _ _ => rfl)) (pe_tup (pa_cons pe_str (pa_cons pe_str pa_nil))) rfl)
        (pss_one (ps_ret (pe_op (kCatT K rfl) (pe_slice (kSlT K rfl) (pv 0) po_none (po_some (pe_un un_neg pe_int))) (pe_tup (pa_cons (C8.pe_c c__law_put_in hr (by omega) rfl (pa_cons (pe_ix (kIxT K rfl) (pv 0) (pe_un un_neg pe_int) (fun _ _ => rfl)) (pa_cons (pv 1) pa_nil))) (pa_cons (C8.pe_c c__law_put_in hr (by omega) rfl (pa_cons (pe_ix (kIxT K rfl) (pv 0) (pe_un un_neg pe_int) (fun _ _ => rfl)) (pa_cons (pv 1) pa_nil))) pa_nil))))))
        pss_nil)
        (pss_one (ps_ret (pe_op (kCatT K rfl) (pe_slice (kSlT K rfl) (pv 0) po_none (po_some (pe_un un_neg pe_int))) (pe_tup (pa_cons (C8.pe_c c__law_put_in hr (by omega) rfl (pa_cons (pe_ix (kIxT K rfl) (pv 0) (pe_un un_neg pe_int) (fun _ _ => rfl)) (pa_cons (pv 1) pa_nil))) pa_nil)))))))), ?_⟩
  refine ⟨_, rfl, _, _, ta.dp, .str _, shp_dep h9, shp_in, _, rfl, ?_⟩
  rw [eqv_in]
  cases t with
  | inn => exact iteT ⟨_, rfl, q _ _ (Same.refl _) to⟩
  | thn t u =>
    obtain ⟨a, x, y, rfl, h, r, r'⟩ := ta
    have hnd : (Tm.thn t u).dep = max t.dep u.dep + 1 := rfl
    refine iteF ?_
    refine ⟨_, rfl, _, _, _, _, rfl, rfl, SqT.of h, rfl, rfl, _, rfl, iteTd (by decide +kernel) ?_⟩
    refine ⟨_, rfl, _, _, _, _, rfl, rfl, SqT.of h, rfl, _, rfl, _, t, _, o, rfl, r, to, by omega, by omega, fun H1 r1 s1 tr => ?_⟩
    refine ⟨_, rfl, _, _, _, _, rfl, rfl, SqT.of (s1 _ _ h), rfl, sz rfl, fun p hp => ?_⟩
    exact q _ _ (s1.trans' (same_new hp _)) ⟨_, _, _, rfl, upd_same, tr.keep (Tups.of (same_new hp _)), r'.keep (Tups.of (s1.trans' (same_new hp _)))⟩
  | one w t =>
    obtain ⟨a, x, rfl, h, r⟩ := ta
    have hnd : (Tm.one w t).dep = t.dep + 1 := rfl
    refine iteF ?_
    refine ⟨_, rfl, _, _, _, _, rfl, rfl, SqT.of h, rfl, rfl, _, rfl, iteFd (by cases w <;> decide +kernel) ?_⟩
    refine ⟨_, rfl, _, _, _, _, rfl, rfl, SqT.of h, rfl, sz rfl, fun p0 hp0 => ⟨_, _, rfl, .inr (SqT.of upd_same), rfl, rfl, _, rfl, iteFd (oIw w) ?_⟩⟩
    have k0 := same_new hp0 (.tup [.str "by", .str "keep"])
    have h0 := k0 _ _ h
    refine ⟨_, rfl, _, rfl, _, rfl, _, _, rfl, SqT.of h0, nwe (a := 1) (b := 2) (by decide), fun p1 hp1 => ?_⟩
    have k1 := same_new hp1 (.tup [.str w.s])
    refine ⟨_, rfl, _, rfl, _, _, _, _, rfl, rfl, SqT.of (k1 _ _ h0), rfl, _, rfl, _, t, _, o, rfl, r.keep (Tups.of (k0.trans' k1)), to.keep (Tups.of (k0.trans' k1)), by omega, by omega, fun H2 r1 s2 tr => ⟨sz rfl, fun p3 hp3 => ?_⟩⟩
    have k3 := same_new hp3 (.tup [r1])
    refine ⟨_, _, _, _, rfl, rfl, SqT.of (k3 _ _ (s2 _ _ upd_same)), SqT.of upd_same, List.cons_ne_nil _ _, szn rfl, fun z => (nomatch z), fun _ p4 hp4 => ?_⟩
    have k4 := same_new hp4 (.tup ([.str w.s] ++ [r1]))
    exact q _ _ ((((k0.trans' k1).trans' s2).trans' k3).trans' k4) ⟨_, _, rfl, upd_same, tr.keep (Tups.of (k3.trans' k4))⟩
  | late b t =>
    obtain ⟨a, x, rfl, h, r⟩ := ta
    have hnd : (Tm.late b t).dep = t.dep + 1 := rfl
    refine iteF ?_
    refine ⟨_, rfl, _, _, _, _, rfl, rfl, SqT.of h, rfl, rfl, _, rfl, iteFd (by decide +kernel) ?_⟩
    refine ⟨_, rfl, _, _, _, _, rfl, rfl, SqT.of h, rfl, sz rfl, fun p0 hp0 => ⟨_, _, rfl, .inr (SqT.of upd_same), rfl, rfl, _, rfl, iteFd oIl ?_⟩⟩
    have k0 := same_new hp0 (.tup [.str "by", .str "keep"])
    have h0 := k0 _ _ h
    refine ⟨_, rfl, _, rfl, _, rfl, _, _, rfl, SqT.of h0, nwe (a := 2) (b := 3) (by decide), fun p1 hp1 => ?_⟩
    have k1 := same_new hp1 (.tup [.str "late", .str (sgn b)])
    refine ⟨_, rfl, _, rfl, _, _, _, _, rfl, rfl, SqT.of (k1 _ _ h0), rfl, _, rfl, _, t, _, o, rfl, r.keep (Tups.of (k0.trans' k1)), to.keep (Tups.of (k0.trans' k1)), by omega, by omega, fun H2 r1 s2 tr => ⟨sz rfl, fun p3 hp3 => ?_⟩⟩
    have k3 := same_new hp3 (.tup [r1])
    refine ⟨_, _, _, _, rfl, rfl, SqT.of (k3 _ _ (s2 _ _ upd_same)), SqT.of upd_same, List.cons_ne_nil _ _, szn rfl, fun z => (nomatch z), fun _ p4 hp4 => ?_⟩
    have k4 := same_new hp4 (.tup ([.str "late", .str (sgn b)] ++ [r1]))
    exact q _ _ ((((k0.trans' k1).trans' s2).trans' k3).trans' k4) ⟨_, _, rfl, upd_same, tr.keep (Tups.of (k3.trans' k4))⟩
  | byy b1 b2 b3 b4 t u =>
    obtain ⟨a, x, y, rfl, h, r, r'⟩ := ta
    have hnd : (Tm.byy b1 b2 b3 b4 t u).dep = max t.dep u.dep + 1 := rfl
    refine iteF ?_
    refine ⟨_, rfl, _, _, _, _, rfl, rfl, SqT.of h, rfl, rfl, _, rfl, iteFd (by decide +kernel) ?_⟩
    refine ⟨_, rfl, _, _, _, _, rfl, rfl, SqT.of h, rfl, sz rfl, fun p0 hp0 => ⟨_, _, rfl, .inr (SqT.of upd_same), rfl, rfl, _, rfl, iteTd oIb ?_⟩⟩
    have k0 := same_new hp0 (.tup [.str "by", .str "keep"])
    have h0 := k0 _ _ h
    refine ⟨_, rfl, _, rfl, _, rfl, _, _, rfl, SqT.of h0, nwe (a := 2) (b := 4) (by decide), fun p1 hp1 => ?_⟩
    have k1 := same_new hp1 (.tup [.str "by", .str (tx [b1, b2, b3, b4])])
    refine ⟨_, rfl, _, rfl, _, _, _, _, rfl, rfl, SqT.of (k1 _ _ h0), rfl, _, rfl, _, t, _, o, rfl, r.keep (Tups.of (k0.trans' k1)), to.keep (Tups.of (k0.trans' k1)), by omega, by omega, fun H2 r1 s2 tr => ?_⟩
    refine ⟨_, rfl, _, rfl, _, _, _, _, rfl, rfl, SqT.of (s2 _ _ (k1 _ _ h0)), rfl, _, rfl, _, u, _, o, rfl, r'.keep (Tups.of ((k0.trans' k1).trans' s2)), to.keep (Tups.of ((k0.trans' k1).trans' s2)), by omega, by omega, fun H3 r2 s3 tr2 => ⟨sz rfl, fun p3 hp3 => ?_⟩⟩
    have k3 := same_new hp3 (.tup [r1, r2])
    refine ⟨_, _, _, _, rfl, rfl, SqT.of (k3 _ _ (s3 _ _ (s2 _ _ upd_same))), SqT.of upd_same, List.cons_ne_nil _ _, szn rfl, fun z => (nomatch z), fun _ p4 hp4 => ?_⟩
    have k4 := same_new hp4 (.tup ([.str "by", .str (tx [b1, b2, b3, b4])] ++ [r1, r2]))
    exact q _ _ (((((k0.trans' k1).trans' s2).trans' s3).trans' k3).trans' k4) ⟨_, _, _, rfl, upd_same, tr.keep (Tups.of ((s3.trans' k3).trans' k4)), tr2.keep (Tups.of (k3.trans' k4))⟩
  | keep t u =>
    obtain ⟨a, x, y, rfl, h, r, r'⟩ := ta
    have hnd : (Tm.keep t u).dep = max t.dep u.dep + 1 := rfl
    refine iteF ?_
    refine ⟨_, rfl, _, _, _, _, rfl, rfl, SqT.of h, rfl, rfl, _, rfl, iteFd (by decide +kernel) ?_⟩
    refine ⟨_, rfl, _, _, _, _, rfl, rfl, SqT.of h, rfl, sz rfl, fun p0 hp0 => ⟨_, _, rfl, .inr (SqT.of upd_same), rfl, rfl, _, rfl, iteTd oIk ?_⟩⟩
    have k0 := same_new hp0 (.tup [.str "by", .str "keep"])
    have h0 := k0 _ _ h
    refine ⟨_, rfl, _, rfl, _, rfl, _, _, rfl, SqT.of h0, nwe (a := 1) (b := 3) (by decide), fun p1 hp1 => ?_⟩
    have k1 := same_new hp1 (.tup [.str "keep"])
    refine ⟨_, rfl, _, rfl, _, _, _, _, rfl, rfl, SqT.of (k1 _ _ h0), rfl, _, rfl, _, t, _, o, rfl, r.keep (Tups.of (k0.trans' k1)), to.keep (Tups.of (k0.trans' k1)), by omega, by omega, fun H2 r1 s2 tr => ?_⟩
    refine ⟨_, rfl, _, rfl, _, _, _, _, rfl, rfl, SqT.of (s2 _ _ (k1 _ _ h0)), rfl, _, rfl, _, u, _, o, rfl, r'.keep (Tups.of ((k0.trans' k1).trans' s2)), to.keep (Tups.of ((k0.trans' k1).trans' s2)), by omega, by omega, fun H3 r2 s3 tr2 => ⟨sz rfl, fun p3 hp3 => ?_⟩⟩
    have k3 := same_new hp3 (.tup [r1, r2])
    refine ⟨_, _, _, _, rfl, rfl, SqT.of (k3 _ _ (s3 _ _ (s2 _ _ upd_same))), SqT.of upd_same, List.cons_ne_nil _ _, szn rfl, fun z => (nomatch z), fun _ p4 hp4 => ?_⟩
    have k4 := same_new hp4 (.tup ([.str "keep"] ++ [r1, r2]))
    exact q _ _ (((((k0.trans' k1).trans' s2).trans' s3).trans' k3).trans' k4) ⟨_, _, _, rfl, upd_same, tr.keep (Tups.of ((s3.trans' k3).trans' k4)), tr2.keep (Tups.of (k3.trans' k4))⟩
theorem ok_law_put_in (F : Fun K "_law_put_in" "_law_put_in" s_law_put_in f fd) (T : Txt K mg aS a1 a2) (hm : mg "_law_put_in" = some (.ref f)) (hk : PySem.W.keepIn K (.ref f) = true) (hb : Binds K fd ["_law_term_here", "_law_other"] []) : ∀ n, C8.Cal P w K mg base (n + 1) "_law_put_in" (spPutBy n) []
  | 0 => ⟨f, fd, _, [], ⟨by rintro vs H Q E ⟨b, t, vo, o, rfl, _⟩; rfl, by
      rintro A outer s H args us vs Q E hr e0 hb r ⟨b, t, vo, o, rfl, _, _, hn, _⟩
      have := t.dep_pos
      omega⟩, hm, hk, hb, .nil⟩
  | n + 1 => ⟨f, fd, _, [], step_law_put_in F T (ok_law_put_in F T hm hk hb n), hm, hk, hb, .nil⟩
abbrev s_law_plain : Stmt := top 53
abbrev N_law_plain : List Str := ["_law_term_here"]
theorem sc_law_plain : FnScope N_law_plain ["_law_term_here"] (defScope s_law_plain) := ⟨rfl, rfl, rfl, by decide +kernel, rfl, by decide +kernel, by decide +kernel⟩
theorem step_law_plain {n : Nat} (F : Fun K "_law_plain" "_law_plain" s_law_plain f fd) (T : Txt K mg aS a1 a2) (c__law_put_in : C8.Cal P w K mg base 21 "_law_put_in" (spPutBy 20) []) (c__law_plain : C8.Cal P w K mg base (n + 22) "_law_plain" (spPlainBy n) []) : FnOk P w K mg base CX0 (n + 23) f fd ["_law_term_here"] (spPlainBy (n + 1)) := by
  refine F.ok sc_law_plain (fun vs H Q E h => ?_) (fun cdv A outer s H vs Q E hr h => ?_)
  · obtain ⟨b, t, rfl, _⟩ := h
    rfl
  obtain ⟨v, t, rfl, ta, hn, h9, q⟩ := h
  refine ⟨_, (pss_cons (ps_if (pt_cmpR (kEqD K rfl hr.units) (pv 0) pe_str (nomark _))
        (pss_one (ps_ret (pv 0)))
        pss_nil)
        (pss_cons (ps_if (pt_cmpR op_eq (pe_ix (kIxT K rfl) (pv 0) pe_int (fun _ _ => rfl)) pe_str (nomark _))
        (pss_one (ps_ret (C8.pe_c c__law_put_in hr (by omega) rfl (pa_cons (C8.pe_c c__law_plain hr (by omega) rfl (pa_cons (pe_ix (kIxT K rfl) (pv 0) pe_int (fun _ _ => rfl)) pa_nil)) (pa_cons (C8.pe_c c__law_plain hr (by omega) rfl (pa_cons (pe_ix (kIxT K rfl) (pv 0) pe_int (fun _ _ => rfl)) pa_nil)) pa_nil)))))
        pss_nil)
        (pss_cons (ps_if (pt_cmpR (kIn K rfl) (pe_ix (kIxT K rfl) (pv 0) pe_int (fun _ _ => rfl)) (pe_tup (pa_cons pe_str (pa_cons pe_str pa_nil))) rfl)
        (pss_one (ps_ret (pe_op (kCatT K rfl) (pe_slice (kSlT K rfl) (pv 0) po_none (po_some (pe_un un_neg pe_int))) (pe_tup (pa_cons (C8.pe_c c__law_plain hr (by omega) rfl (pa_cons (pe_ix (kIxT K rfl) (pv 0) (pe_un un_neg pe_int) (fun _ _ => rfl)) pa_nil)) (pa_cons (C8.pe_c c__law_plain hr (by omega) rfl (pa_cons (pe_ix (kIxT K rfl) (pv 0) (pe_un un_neg pe_int) (fun _ _ => rfl)) pa_nil)) pa_nil))))))
        pss_nil)
        (pss_one (ps_ret (pe_op (kCatT K rfl) (pe_slice (kSlT K rfl) (pv 0) po_none (po_some (pe_un un_neg pe_int))) (pe_tup (pa_cons (C8.pe_c c__law_plain hr (by omega) rfl (pa_cons (pe_ix (kIxT K rfl) (pv 0) (pe_un un_neg pe_int) (fun _ _ => rfl)) pa_nil)) pa_nil)))))))), ?_⟩
  refine ⟨_, rfl, _, _, ta.dp, .str _, shp_tm (by omega), shp_in, _, rfl, ?_⟩
  rw [eqv_in]
  cases t with
  | inn => exact iteT ⟨_, rfl, q _ _ (Same.refl _) ta⟩
  | thn t u =>
    obtain ⟨a, x, y, rfl, h, r, r'⟩ := ta
    have hnd : (Tm.thn t u).nodes = t.nodes + u.nodes + 1 := rfl
    have := t.nodes_pos
    have := u.nodes_pos
    refine iteF ?_
    refine ⟨_, rfl, _, _, _, _, rfl, rfl, SqT.of h, rfl, rfl, _, rfl, iteTd (by decide +kernel) ?_⟩
    refine ⟨_, rfl, _, _, _, _, rfl, rfl, SqT.of h, rfl, _, u, rfl, r', by omega, by omega, fun H1 ru s1 tu => ?_⟩
    refine ⟨_, rfl, _, _, _, _, rfl, rfl, SqT.of (s1 _ _ h), rfl, _, t, rfl, r.keep (Tups.of s1), by omega, by omega, fun H2 rt s2 tt => ?_⟩
    have hdp := dep_plain u
    exact ⟨_, plain u, _, plain t, rfl, tu.keep (Tups.of s2), tt, by omega, by omega, fun H3 r s3 tr => q _ _ ((s1.trans' s2).trans' s3) tr⟩
  | one w t =>
    obtain ⟨a, x, rfl, h, r⟩ := ta
    have hnd : (Tm.one w t).nodes = t.nodes + 1 := rfl
    refine iteF ?_
    refine ⟨_, rfl, _, _, _, _, rfl, rfl, SqT.of h, rfl, rfl, _, rfl, iteFd (by cases w <;> decide +kernel) ?_⟩
    refine ⟨_, rfl, _, _, _, _, rfl, rfl, SqT.of h, rfl, sz rfl, fun p0 hp0 => ⟨_, _, rfl, .inr (SqT.of upd_same), rfl, rfl, _, rfl, iteFd (oIw w) ?_⟩⟩
    have k0 := same_new hp0 (.tup [.str "by", .str "keep"])
    have h0 := k0 _ _ h
    refine ⟨_, rfl, _, rfl, _, rfl, _, _, rfl, SqT.of h0, nwe (a := 1) (b := 2) (by decide), fun p1 hp1 => ?_⟩
    have k1 := same_new hp1 (.tup [.str w.s])
    refine ⟨_, rfl, _, rfl, _, _, _, _, rfl, rfl, SqT.of (k1 _ _ h0), rfl, _, t, rfl, r.keep (Tups.of (k0.trans' k1)), by omega, by omega, fun H2 r1 s2 tr => ⟨sz rfl, fun p3 hp3 => ?_⟩⟩
    have k3 := same_new hp3 (.tup [r1])
    refine ⟨_, _, _, _, rfl, rfl, SqT.of (k3 _ _ (s2 _ _ upd_same)), SqT.of upd_same, List.cons_ne_nil _ _, szn rfl, fun z => (nomatch z), fun _ p4 hp4 => ?_⟩
    have k4 := same_new hp4 (.tup ([.str w.s] ++ [r1]))
    exact q _ _ ((((k0.trans' k1).trans' s2).trans' k3).trans' k4) ⟨_, _, rfl, upd_same, tr.keep (Tups.of (k3.trans' k4))⟩
  | late b t =>
    obtain ⟨a, x, rfl, h, r⟩ := ta
    have hnd : (Tm.late b t).nodes = t.nodes + 1 := rfl
    refine iteF ?_
    refine ⟨_, rfl, _, _, _, _, rfl, rfl, SqT.of h, rfl, rfl, _, rfl, iteFd (by decide +kernel) ?_⟩
    refine ⟨_, rfl, _, _, _, _, rfl, rfl, SqT.of h, rfl, sz rfl, fun p0 hp0 => ⟨_, _, rfl, .inr (SqT.of upd_same), rfl, rfl, _, rfl, iteFd oIl ?_⟩⟩
    have k0 := same_new hp0 (.tup [.str "by", .str "keep"])
    have h0 := k0 _ _ h
    refine ⟨_, rfl, _, rfl, _, rfl, _, _, rfl, SqT.of h0, nwe (a := 2) (b := 3) (by decide), fun p1 hp1 => ?_⟩
    have k1 := same_new hp1 (.tup [.str "late", .str (sgn b)])
    refine ⟨_, rfl, _, rfl, _, _, _, _, rfl, rfl, SqT.of (k1 _ _ h0), rfl, _, t, rfl, r.keep (Tups.of (k0.trans' k1)), by omega, by omega, fun H2 r1 s2 tr => ⟨sz rfl, fun p3 hp3 => ?_⟩⟩
    have k3 := same_new hp3 (.tup [r1])
    refine ⟨_, _, _, _, rfl, rfl, SqT.of (k3 _ _ (s2 _ _ upd_same)), SqT.of upd_same, List.cons_ne_nil _ _, szn rfl, fun z => (nomatch z), fun _ p4 hp4 => ?_⟩
    have k4 := same_new hp4 (.tup ([.str "late", .str (sgn b)] ++ [r1]))
    exact q _ _ ((((k0.trans' k1).trans' s2).trans' k3).trans' k4) ⟨_, _, rfl, upd_same, tr.keep (Tups.of (k3.trans' k4))⟩
  | byy b1 b2 b3 b4 t u =>
    obtain ⟨a, x, y, rfl, h, r, r'⟩ := ta
    have hnd : (Tm.byy b1 b2 b3 b4 t u).nodes = t.nodes + u.nodes + 1 := rfl
    have := t.nodes_pos
    have := u.nodes_pos
    refine iteF ?_
    refine ⟨_, rfl, _, _, _, _, rfl, rfl, SqT.of h, rfl, rfl, _, rfl, iteFd (by decide +kernel) ?_⟩
    refine ⟨_, rfl, _, _, _, _, rfl, rfl, SqT.of h, rfl, sz rfl, fun p0 hp0 => ⟨_, _, rfl, .inr (SqT.of upd_same), rfl, rfl, _, rfl, iteTd oIb ?_⟩⟩
    have k0 := same_new hp0 (.tup [.str "by", .str "keep"])
    have h0 := k0 _ _ h
    refine ⟨_, rfl, _, rfl, _, rfl, _, _, rfl, SqT.of h0, nwe (a := 2) (b := 4) (by decide), fun p1 hp1 => ?_⟩
    have k1 := same_new hp1 (.tup [.str "by", .str (tx [b1, b2, b3, b4])])
    refine ⟨_, rfl, _, rfl, _, _, _, _, rfl, rfl, SqT.of (k1 _ _ h0), rfl, _, t, rfl, r.keep (Tups.of (k0.trans' k1)), by omega, by omega, fun H2 r1 s2 tr => ?_⟩
    refine ⟨_, rfl, _, rfl, _, _, _, _, rfl, rfl, SqT.of (s2 _ _ (k1 _ _ h0)), rfl, _, u, rfl, r'.keep (Tups.of ((k0.trans' k1).trans' s2)), by omega, by omega, fun H3 r2 s3 tr2 => ⟨sz rfl, fun p3 hp3 => ?_⟩⟩
    have k3 := same_new hp3 (.tup [r1, r2])
    refine ⟨_, _, _, _, rfl, rfl, SqT.of (k3 _ _ (s3 _ _ (s2 _ _ upd_same))), SqT.of upd_same, List.cons_ne_nil _ _, szn rfl, fun z => (nomatch z), fun _ p4 hp4 => ?_⟩
    have k4 := same_new hp4 (.tup ([.str "by", .str (tx [b1, b2, b3, b4])] ++ [r1, r2]))
    exact q _ _ (((((k0.trans' k1).trans' s2).trans' s3).trans' k3).trans' k4) ⟨_, _, _, rfl, upd_same, tr.keep (Tups.of ((s3.trans' k3).trans' k4)), tr2.keep (Tups.of (k3.trans' k4))⟩
  | keep t u =>
    obtain ⟨a, x, y, rfl, h, r, r'⟩ := ta
    have hnd : (Tm.keep t u).nodes = t.nodes + u.nodes + 1 := rfl
    have := t.nodes_pos
    have := u.nodes_pos
    refine iteF ?_
    refine ⟨_, rfl, _, _, _, _, rfl, rfl, SqT.of h, rfl, rfl, _, rfl, iteFd (by decide +kernel) ?_⟩
    refine ⟨_, rfl, _, _, _, _, rfl, rfl, SqT.of h, rfl, sz rfl, fun p0 hp0 => ⟨_, _, rfl, .inr (SqT.of upd_same), rfl, rfl, _, rfl, iteTd oIk ?_⟩⟩
    have k0 := same_new hp0 (.tup [.str "by", .str "keep"])
    have h0 := k0 _ _ h
    refine ⟨_, rfl, _, rfl, _, rfl, _, _, rfl, SqT.of h0, nwe (a := 1) (b := 3) (by decide), fun p1 hp1 => ?_⟩
    have k1 := same_new hp1 (.tup [.str "keep"])
    refine ⟨_, rfl, _, rfl, _, _, _, _, rfl, rfl, SqT.of (k1 _ _ h0), rfl, _, t, rfl, r.keep (Tups.of (k0.trans' k1)), by omega, by omega, fun H2 r1 s2 tr => ?_⟩
    refine ⟨_, rfl, _, rfl, _, _, _, _, rfl, rfl, SqT.of (s2 _ _ (k1 _ _ h0)), rfl, _, u, rfl, r'.keep (Tups.of ((k0.trans' k1).trans' s2)), by omega, by omega, fun H3 r2 s3 tr2 => ⟨sz rfl, fun p3 hp3 => ?_⟩⟩
    have k3 := same_new hp3 (.tup [r1, r2])
    refine ⟨_, _, _, _, rfl, rfl, SqT.of (k3 _ _ (s3 _ _ (s2 _ _ upd_same))), SqT.of upd_same, List.cons_ne_nil _ _, szn rfl, fun z => (nomatch z), fun _ p4 hp4 => ?_⟩
    have k4 := same_new hp4 (.tup ([.str "keep"] ++ [r1, r2]))
    exact q _ _ (((((k0.trans' k1).trans' s2).trans' s3).trans' k3).trans' k4) ⟨_, _, _, rfl, upd_same, tr.keep (Tups.of ((s3.trans' k3).trans' k4)), tr2.keep (Tups.of (k3.trans' k4))⟩
theorem ok_law_plain (F : Fun K "_law_plain" "_law_plain" s_law_plain f fd) (T : Txt K mg aS a1 a2) (hm : mg "_law_plain" = some (.ref f)) (hk : PySem.W.keepIn K (.ref f) = true) (hb : Binds K fd ["_law_term_here"] []) (c__law_put_in : C8.Cal P w K mg base 21 "_law_put_in" (spPutBy 20) []) : ∀ n, C8.Cal P w K mg base (n + 22) "_law_plain" (spPlainBy n) []
  | 0 => ⟨f, fd, _, [], ⟨by rintro vs H Q E ⟨b, t, rfl, _⟩; rfl, by
      rintro A outer s H args us vs Q E hr e0 hb r ⟨b, t, rfl, _, hn, _⟩
      have := t.nodes_pos
      omega⟩, hm, hk, hb, .nil⟩
  | n + 1 => ⟨f, fd, _, [], step_law_plain F T c__law_put_in (ok_law_plain F T hm hk hb c__law_put_in n), hm, hk, hb, .nil⟩
abbrev s_law_due : Stmt := top 55
abbrev N_law_due : List Str := ["_law_term_here"]
theorem sc_law_due : FnScope N_law_due ["_law_term_here"] (defScope s_law_due) := ⟨rfl, rfl, rfl, by decide +kernel, rfl, by decide +kernel, by decide +kernel⟩
theorem ok_law_due (F : Fun K "_law_due" "_law_due" s_law_due f fd) (T : Txt K mg aS a1 a2) (c__law_nodes : C8.Cal P w K mg base 50 "_law_nodes" (spNodes 50) []) : FnOk P w K mg base CX0 51 f fd ["_law_term_here"] spDue := by
  refine F.ok sc_law_due (fun vs H Q E h => ?_) (fun cdv A outer s H vs Q E hr h => ?_)
  · obtain ⟨b, t, rfl, _⟩ := h
    rfl
  obtain ⟨v, t, rfl, ta, hn, q⟩ := h
  refine ⟨_, (pss_one (ps_ret (pe_ifExp (pt_cmpR op_lt (C8.pe_c c__law_nodes hr (by decide) rfl (pa_cons (pv 0) pa_nil)) pe_int (nomark _)) (pv 0) (pe_lst (pa_cons pe_str (pa_cons pe_int pa_nil)))))), ?_⟩
  refine ⟨_, rfl, v, t, rfl, ta, hn, by omega, fun H1 s1 => ⟨_, _, rfl, rfl, _, rfl, ?_⟩⟩
  by_cases h : t.nodes < 10
  · exact iteTd (by simp; omega) ⟨_, rfl, q _ _ s1 (.inl ⟨h, ta.keep (Tups.of s1)⟩)⟩
  · exact iteFd (by simp; omega) ⟨sz rfl, fun L hL => q _ _ (s1.trans' (same_new hL _)) (.inr ⟨by omega, L, rfl, upd_same⟩)⟩
end
end FY


set_option Elab.async false
set_option linter.all false
set_option maxRecDepth 100000
set_option maxHeartbeats 4000000
namespace FY
open PySem L2 FYR
/-- a def that may raise, by its name -/
structure CalX (P : Program) (w : World) (K : PySem.W.Frag) (mg : Str → Option Value) (base : Heap) (k : Nat) (x : Str) (sp : Sp) : Prop where
  ex : ∃ (f : Addr) (fd : FuncData) (ps : List Str), FnOk P w K mg base (L2.CX P w) k f fd ps sp ∧ mg x = some (.ref f) ∧ PySem.W.keepIn K (.ref f) = true ∧ Binds K fd ps []
structure CalXK (P : Program) (w : World) (K : PySem.W.Frag) (mg : Str → Option Value) (base : Heap) (k : Nat) (x : Str) (sp : Sp) (ks : List Str) (g : List Value → List Value → List Value) (gV : List V → List V → List V) : Prop where
  ex : ∃ (f : Addr) (fd : FuncData) (ps : List Str), FnOk P w K mg base (L2.CX P w) k f fd ps sp ∧ mg x = some (.ref f) ∧ PySem.W.keepIn K (.ref f) = true ∧ KBn K fd ps 0 ks g gV
structure CalK (P : Program) (w : World) (K : PySem.W.Frag) (mg : Str → Option Value) (base : Heap) (k : Nat) (x : Str) (sp : Sp) (ks : List Str) (g : List Value → List Value → List Value) (gV : List V → List V → List V) : Prop where
  ex : ∃ (f : Addr) (fd : FuncData) (ps : List Str), FnOk P w K mg base CX0 k f fd ps sp ∧ mg x = some (.ref f) ∧ PySem.W.keepIn K (.ref f) = true ∧ KBn K fd ps 0 ks g gV
def EF : XK := fun _ _ _ => False
theorem passF {X : Cx} {P : Program} {w : World} : Passes (L2.CX P w) X EF := fun _ _ _ _ _ _ _ h => by
  obtain ⟨_, _, _, _, _, _, _, _, _, _, _, _, z⟩ := h
  exact z.elim
section
variable {X : Cx} {k j : Nat} {x : Str} {sp : Sp} {ks : List Str} {g : List Value → List Value → List Value} {gV : List V → List V → List V} {p pos : Pos} {kws : List Keyword} {tk t : L2.TA} {e : Expr} {es : List Expr} {E : XK}
theorem pe_cX (c : CalX X.prog X.w X.K X.mg X.base k x sp) (hr : Room j X.A) (hk : k ≤ j) (hg : Gl X x) (hx : Passes (L2.CX X.prog X.w) X E) (ha : PA X (e :: es) t)
    (hdb : (x == ("__debug__" : Str)) = false := by decide) (he : starEach (e :: es) X.env = (false, eval e X.env) :: starEach es X.env := by rfl) (hpl : (backTo pos (starEach es X.env)).any (·.1) = false := by rfl) :
    PE X (.Call (.Name x p) (e :: es) [] pos) (tCall sp [] E t) := by
  obtain ⟨f, fd, ps, F, hm, kp, b⟩ := c.ex
  exact pe_call F (hr.mono hk) hg hm kp b .nil hx ha hdb he hpl
theorem pe_cXK (c : CalXK X.prog X.w X.K X.mg X.base k x sp ks g gV) (hr : Room j X.A) (hk : k ≤ j) (hg : Gl X x) (hx : Passes (L2.CX X.prog X.w) X E) (hkw : PK X kws tk) (hall : (backToKw pos (keywordEach kws X.env)).all (·.1.isSome) = true := by rfl) (hks : (backToKw pos (keywordEach kws X.env)).filterMap (·.1) = ks := by rfl)
    (hdb : (x == ("__debug__" : Str)) = false := by decide)
    (hpl : ((backTo pos (starEach [] X.env)).any (·.1) || (backToKw pos (keywordEach kws X.env)).any (·.1.isNone)) = false := by rfl) : PE X (.Call (.Name x p) [] kws pos) (tCallN0 ks.length sp gV E tk) := by
  obtain ⟨f, fd, ps, F, hm, kp, b⟩ := c.ex
  exact pe_callN0 F (hr.mono hk) hg hm kp b hx hkw hall hks hdb hpl
end
/-! ## TooMany -/
structure TMany (K : PySem.W.Frag) (mg : Str → Option Value) (CL CT fI : Addr) (mc : Value) : Prop where
  gL : mg "LimitError" = some (.ref CL)
  gC : mg "TooMany" = some (.ref CT)
  rd : ClX.CRead K CL mc
  vV : PySem.W.findCls K (.ref CL) mc "__init__" = some (.val (.builtin "ArithmeticError.__init__"))
  ox : OexA K CT
  iC : PySem.W.findIn K (.ref CT) "__init__" = some (some (.ref fI))
  tI : PySem.W.typeIn K (.ref fI) = some (.type "function")
  noW : PySem.W.findIn K (.ref CT) "what" = some none
  noL : PySem.W.findIn K (.ref CT) "limit" = some none
  xf : XfC K CT
  te : PySem.W.exmOne K (.ref CT) (.ref CT) = some true
def spTMI (K : PySem.W.Frag) (CT : Addr) : Sp := fun vs H Q _ => ∃ a x y, vs = [.ref a, x, y] ∧ OexA K CT ∧ H a = some (exo a CT none) ∧ ∀ dx, H dx = none → dx ≠ a → Q .non (upd (upd (upd H dx (exd dx [("what", x)])) a (exo a CT (some dx))) dx (exd dx [("limit", y), ("what", x)]))
def spWithin (CT : Addr) : Sp := fun vs H Q E => ∃ v t, vs = [v] ∧ TA H v t ∧ t.dep ≤ 50 ∧ (t.nodes < 10 → ∀ H', Same H H' → Q v H') ∧ (10 ≤ t.nodes → ∀ H' d, Same H H' → H' d = some (.xd [("limit", .int 9), ("what", .str "nodes")]) → E (.ref CT) (some d) H')
/-- the result of put_in and plain -/
def spPutIn (CT : Addr) : Sp := fun vs H Q E => ∃ v t vo o, vs = [v, vo] ∧ TA H v t ∧ TA H vo o ∧ t.nodes ≤ 9 ∧ o.nodes ≤ 9 ∧ ((put t o).nodes < 10 → ∀ H' r, Same H H' → TA H' r (put t o) → Q r H') ∧ (10 ≤ (put t o).nodes → ∀ H' d, Same H H' → H' d = some (.xd [("limit", .int 9), ("what", .str "nodes")]) → E (.ref CT) (some d) H')
def spPlain (CT : Addr) : Sp := fun vs H Q E => ∃ v t, vs = [v] ∧ TA H v t ∧ t.nodes ≤ 9 ∧ ((plain t).nodes < 10 → ∀ H' r, Same H H' → TA H' r (plain t) → Q r H') ∧ (10 ≤ (plain t).nodes → ∀ H' d, Same H H' → H' d = some (.xd [("limit", .int 9), ("what", .str "nodes")]) → E (.ref CT) (some d) H')
section
variable {P : Program} {w : World} {K : PySem.W.Frag} {mg : Str → Option Value} {base : Heap} {aS a1 a2 : Addr} {f : Addr} {fd : FuncData} {CL CT fI : Addr} {mc : Value}
abbrev s_TooMany___init__ : Stmt := inClass (top 10) 0
abbrev N_TooMany___init__ : List Str := ["self", "what", "limit"]
theorem sc_TooMany___init__ : FnScope N_TooMany___init__ ["self", "what", "limit"] (defScope s_TooMany___init__) := ⟨rfl, rfl, rfl, by decide +kernel, rfl, by decide +kernel, by decide +kernel⟩
theorem ok_TMI (F : Fun K "__init__" "TooMany.__init__" s_TooMany___init__ f fd) (M : TMany K mg CL CT fI mc) : FnOk P w K mg base CX0 1 f fd ["self", "what", "limit"] (spTMI K CT) := by
  refine F.ok sc_TooMany___init__ (fun vs H Q E h => ?_) (fun cdv A outer s H vs Q E hr h => ?_)
  · obtain ⟨a, x, y, rfl, _⟩ := h
    rfl
  obtain ⟨a, x, y, rfl, ox, ha, q⟩ := h
  refine ⟨_, pss_cons (ps_expr (pe_aeinit rfl M.gL M.rd M.vV (pa_cons (pv 0) (pa_cons pe_str pa_nil)))) (pss_cons (ps_ostA (pv 0) (pv 1)) (pss_one (ps_ostA (pv 0) (pv 2)))), ?_⟩
  refine ⟨_, rfl, a, CT, _, rfl, by decide, ox, ha, ?_⟩
  refine ⟨_, rfl, _, rfl, a, CT, rfl, ox, M.noW, .inl ⟨ha, fun dx hdx hne => ?_⟩⟩
  refine ⟨_, rfl, _, rfl, a, CT, rfl, ox, M.noL, .inr ⟨dx, [("what", x)], upd_same, ?_, Nat.le_of_ble_eq_true rfl, q dx hdx hne⟩⟩
  rw [upd_ne hne, upd_same]
abbrev s_within_limit : Stmt := top 39
abbrev N_within_limit : List Str := ["term"]
theorem sc_within_limit : FnScope N_within_limit ["term"] (defScope s_within_limit) := ⟨rfl, rfl, rfl, by decide +kernel, rfl, by decide +kernel, by decide +kernel⟩
theorem ok_within_limit {fdI : FuncData} (F : Fun K "within_limit" "within_limit" s_within_limit f fd) (T : Txt K mg aS a1 a2) (M : TMany K mg CL CT fI mc) (G : FnOk P w K mg base CX0 1 fI fdI ["self", "what", "limit"] (spTMI K CT)) (bI : Binds K fdI ["self", "what", "limit"] []) (c_nodes_of : C8.Cal P w K mg base 51 "nodes_of" (spNodes 50) []) : FnOk P w K mg base (L2.CX P w) 52 f fd ["term"] (spWithin CT) := by
  refine F.okX sc_within_limit (fun vs H Q E h => ?_) (fun cdv A outer s H vs Q E hr h => ?_)
  · obtain ⟨b, t, rfl, _⟩ := h
    rfl
  obtain ⟨v, t, rfl, ta, hd, q, e⟩ := h
  refine ⟨_, (pss_cons (ps_if (pt_cmpR op_gt (C8.pe_c c_nodes_of hr (by decide) rfl (pa_cons (pv 0) pa_nil)) (C8.pe_gc rfl T.g_MOST_NODES) (nomark _))
      (pss_one (ps_raise rfl (takes_of rfl rfl rfl rfl) (pmk_aex M.ox M.iC M.tI G (hr.mono (by decide)) bI pass0 rfl M.gC (pa_cons pe_str (pa_cons (C8.pe_gc rfl T.g_MOST_NODES) pa_nil)))))
      pss_nil)
      (pss_one (ps_ret (pv 0)))), ?_⟩
  refine ⟨_, rfl, v, t, rfl, ta, hd, by omega, fun H1 s1 => ⟨_, _, rfl, rfl, _, rfl, ?_⟩⟩
  by_cases h : t.nodes < 10
  · exact iteFd (by simp; omega) ⟨_, rfl, q h _ s1⟩
  · refine iteTd (by simp; omega) ⟨by decide, fun a ha => ⟨a, _, _, rfl, M.ox, upd_same, fun dx hdx hne => ⟨rfl, dx, _, ?_, upd_same, ?_, ?_⟩⟩⟩
    · rw [upd_ne (Ne.symm hne), upd_same]
    · rw [upd_ne hne] at hdx
      exact hdx
    · rw [upd_ne hne] at hdx
      refine e (by omega) _ _ (fun b o hb => ?_) upd_same
      have hb1 := s1 _ _ hb
      have n1 : b ≠ dx := ne_of_none hb1 hdx
      have n2 : b ≠ a := ne_of_none hb1 ha
      rw [upd_ne n1, del_ne n2, upd_ne n1, upd_ne n2, upd_ne n1, upd_ne n2]
      exact hb1
abbrev s_put_in : Stmt := top 40
abbrev N_put_in : List Str := ["term", "other"]
theorem sc_put_in : FnScope N_put_in ["term", "other"] (defScope s_put_in) := ⟨rfl, rfl, rfl, by decide +kernel, rfl, by decide +kernel, by decide +kernel⟩
theorem ok_put_in (F : Fun K "put_in" "put_in" s_put_in f fd) (T : Txt K mg aS a1 a2) (c_want_term : C8.Cal P w K mg base 4 "want_term" spWantTerm []) (c_put_by : C8.Cal P w K mg base 21 "put_by" (spPutBy 20) []) (x_within_limit : CalX P w K mg base 52 "within_limit" (spWithin CT)) : FnOk P w K mg base (L2.CX P w) 53 f fd ["term", "other"] (spPutIn CT) := by
  refine F.okX sc_put_in (fun vs H Q E h => ?_) (fun cdv A outer s H vs Q E hr h => ?_)
  · obtain ⟨v, t, vo, o, rfl, _⟩ := h
    rfl
  obtain ⟨v, t, vo, o, rfl, ta, to, h9, o9, q, e⟩ := h
  refine ⟨_, (pss_cons (ps_expr (C8.pe_c c_want_term hr (by decide) rfl (pa_cons (pv 0) pa_nil)))
        (pss_cons (ps_expr (C8.pe_c c_want_term hr (by decide) rfl (pa_cons (pv 1) pa_nil)))
        (pss_one (ps_ret (pe_cX x_within_limit hr (by decide) rfl (passes_call (takes_of rfl rfl rfl rfl) (fun _ _ _ _ h => h)) (pa_cons (C8.pe_c c_put_by hr (by decide) rfl (pa_cons (pv 0) (pa_cons (pv 1) pa_nil))) pa_nil)))))), ?_⟩
  refine ⟨_, rfl, v, t, rfl, ta, h9, fun H1 s1 => ⟨_, rfl, vo, o, rfl, to.keep (Tups.of s1), o9, fun H2 s2 => ?_⟩⟩
  have s12 := s1.trans' s2
  have d1 := t.dep_le
  have d2 := o.dep_le
  have d3 := dep_put o t
  refine ⟨_, rfl, _, rfl, v, t, vo, o, rfl, ta.keep (Tups.of s12), to.keep (Tups.of s12), by omega, by omega, fun H3 r s3 tr => ?_⟩
  exact ⟨r, put t o, rfl, tr, by omega, fun h H4 s4 => q h _ _ ((s12.trans' s3).trans' s4) (tr.keep (Tups.of s4)), fun h H4 d s4 hd => e h _ _ ((s12.trans' s3).trans' s4) hd⟩
abbrev s_plain : Stmt := top 42
abbrev N_plain : List Str := ["term"]
theorem sc_plain : FnScope N_plain ["term"] (defScope s_plain) := ⟨rfl, rfl, rfl, by decide +kernel, rfl, by decide +kernel, by decide +kernel⟩
theorem ok_plain (F : Fun K "plain" "plain" s_plain f fd) (T : Txt K mg aS a1 a2) (c_want_term : C8.Cal P w K mg base 4 "want_term" spWantTerm []) (c_plain_by : C8.Cal P w K mg base 42 "plain_by" (spPlainBy 20) []) (x_within_limit : CalX P w K mg base 52 "within_limit" (spWithin CT)) : FnOk P w K mg base (L2.CX P w) 53 f fd ["term"] (spPlain CT) := by
  refine F.okX sc_plain (fun vs H Q E h => ?_) (fun cdv A outer s H vs Q E hr h => ?_)
  · obtain ⟨v, t, rfl, _⟩ := h
    rfl
  obtain ⟨v, t, rfl, ta, h9, q, e⟩ := h
  refine ⟨_, (pss_cons (ps_expr (C8.pe_c c_want_term hr (by decide) rfl (pa_cons (pv 0) pa_nil)))
        (pss_one (ps_ret (pe_cX x_within_limit hr (by decide) rfl (passes_call (takes_of rfl rfl rfl rfl) (fun _ _ _ _ h => h)) (pa_cons (C8.pe_c c_plain_by hr (by decide) rfl (pa_cons (pv 0) pa_nil)) pa_nil))))), ?_⟩
  refine ⟨_, rfl, v, t, rfl, ta, h9, fun H1 s1 => ?_⟩
  have d3 := dep_plain t
  refine ⟨_, rfl, v, t, rfl, ta.keep (Tups.of s1), by omega, by omega, fun H3 r s3 tr => ?_⟩
  exact ⟨r, plain t, rfl, tr, by omega, fun h H4 s4 => q h _ _ ((s1.trans' s3).trans' s4) (tr.keep (Tups.of s4)), fun h H4 d s4 hd => e h _ _ ((s1.trans' s3).trans' s4) hd⟩
end
end FY


set_option Elab.async false
set_option linter.all false
set_option maxRecDepth 100000
set_option maxHeartbeats 4000000
namespace FY
open PySem L2 FYR
theorem ty_lst {K : PySem.W.Frag} {H : Hp} {a : Addr} {xs : List V} (h : H a = some (.lst xs)) : TyX K H (.ref a) (.type "list") := .base (.lst h)
theorem klt {K : PySem.W.Frag} : PySem.W.kitOne K (.type "list") (.type "tuple") = some false := kit_ty (by decide +kernel)
theorem kls {K : PySem.W.Frag} : PySem.W.kitOne K (.type "list") (.type "str") = some false := kit_ty (by decide +kernel)
theorem fnOk_or {P : Program} {w : World} {K : PySem.W.Frag} {mg : Str → Option Value} {base : Heap} {CX : CXT} {k : Nat} {f : Addr} {fd : FuncData} {ps : List Str} {sp1 sp2 : Sp} (F1 : FnOk P w K mg base CX k f fd ps sp1) (F2 : FnOk P w K mg base CX k f fd ps sp2) :
    FnOk P w K mg base CX k f fd ps (fun vs H Q E => sp1 vs H Q E ∨ sp2 vs H Q E) :=
  ⟨fun vs H Q E h => h.elim (F1.len vs H Q E) (F2.len vs H Q E), fun A outer s H args us vs Q E hr e0 hb r h => h.elim (F1.run A outer s H args us vs Q E hr e0 hb r) (F2.run A outer s H args us vs Q E hr e0 hb r)⟩
def spHasShapeL : Sp := fun vs H Q _ => ∃ L xs, vs = [.ref L] ∧ H L = some (.lst xs) ∧ Q (.bl false) H
def spIsTermL : Sp := fun vs H Q _ => ∃ L, vs = [.ref L] ∧ H L = some (.lst [.str "nodes", .int 9]) ∧ ∀ H', Same H H' → Q (.bl false) H'
def spIsTermU : Sp := fun vs H Q E => spIsTerm vs H Q E ∨ spIsTermL vs H Q E
section
variable {P : Program} {w : World} {K : PySem.W.Frag} {mg : Str → Option Value} {base : Heap} {aS a1 a2 : Addr} {f : Addr} {fd : FuncData} {CL CT fI : Addr} {mc : Value}
theorem ok_has_shapeL (F : Fun K "has_shape" "has_shape" s_has_shape f fd) (T : Txt K mg aS a1 a2) (c_is_sign : C8.Cal P w K mg base 1 "is_sign" spIsSign []) (c_is_text : C8.Cal P w K mg base 1 "is_text" spIsText []) : FnOk P w K mg base CX0 2 f fd ["value"] spHasShapeL := by
  refine F.ok sc_has_shape (fun vs H Q E h => ?_) (fun cdv A outer s H vs Q E hr h => ?_)
  · obtain ⟨L, xs, rfl, _⟩ := h
    rfl
  obtain ⟨L, xs, rfl, hL, q⟩ := h
  refine ⟨_, (pss_cons (ps_if (PW.pt (pw_or (pt_not (pt_val (pe_callB (kIsi K rfl) rfl T.b_isinstance bt_isinstance (pa_cons (pv 0) (pa_cons (pTy rfl T.b_tuple bt_tuple) pa_nil))))) (pw_or (pt_cmpR op_eq (pe_callB (kLen K rfl) rfl T.b_len bt_len (pa_cons (pv 0) pa_nil)) pe_int (nomark _)) (pw_or1 (pt_not (pt_val (pe_callB (kIsi K rfl) rfl T.b_isinstance bt_isinstance (pa_cons (pe_ix (kIxT K rfl) (pv 0) pe_int (fun _ _ => rfl)) (pa_cons (pTy rfl T.b_str bt_str) pa_nil)))))))))
        (pss_one (ps_ret pe_bl))
        pss_nil)
        (pss_cons (ps_if (pt_cmpR (kIn K rfl) (pe_ix (kIxT K rfl) (pv 0) pe_int (fun _ _ => rfl)) (C8.pe_gc rfl T.g_OF_ONE) rfl)
        (pss_one (ps_ret (pe_cmpR op_eq (pe_callB (kLen K rfl) rfl T.b_len bt_len (pa_cons (pv 0) pa_nil)) pe_int (nomark _))))
        pss_nil)
        (pss_cons (ps_if (pt_cmpR (kIn K rfl) (pe_ix (kIxT K rfl) (pv 0) pe_int (fun _ _ => rfl)) (C8.pe_gc rfl T.g_OF_TWO) rfl)
        (pss_one (ps_ret (pe_cmpR op_eq (pe_callB (kLen K rfl) rfl T.b_len bt_len (pa_cons (pv 0) pa_nil)) pe_int (nomark _))))
        pss_nil)
        (pss_cons (ps_if (pt_cmpR op_eq (pe_ix (kIxT K rfl) (pv 0) pe_int (fun _ _ => rfl)) (C8.pe_gc rfl T.g_LATE) (nomark _))
        (pss_one (ps_ret (pe_and (pe_cmpR op_eq (pe_callB (kLen K rfl) rfl T.b_len bt_len (pa_cons (pv 0) pa_nil)) pe_int (nomark _)) (pe_one (C8.pe_c c_is_sign hr (by decide) rfl (pa_cons (pe_ix (kIxT K rfl) (pv 0) pe_int (fun _ _ => rfl)) pa_nil))))))
        pss_nil)
        (pss_one (ps_ret (pe_and (pe_cmpR op_eq (pe_ix (kIxT K rfl) (pv 0) pe_int (fun _ _ => rfl)) (C8.pe_gc rfl T.g_BY) (nomark _)) (pe_and (pe_cmpR op_eq (pe_callB (kLen K rfl) rfl T.b_len bt_len (pa_cons (pv 0) pa_nil)) pe_int (nomark _)) (pe_and (C8.pe_c c_is_text hr (by decide) rfl (pa_cons (pe_ix (kIxT K rfl) (pv 0) pe_int (fun _ _ => rfl)) pa_nil)) (pe_one (pe_cmpR op_eq (pe_callB call_len_str rfl T.b_len bt_len (pa_cons (pe_ix (kIxT K rfl) (pv 0) pe_int (fun _ _ => rfl)) pa_nil)) pe_int (nomark _)))))))))))), ?_⟩
  exact ⟨_, rfl, _, _, _, _, _, rfl, .ty _, ty_lst hL, klt, _, rfl, iteT (iteT q)⟩
theorem ok_is_termL (F : Fun K "is_term" "is_term" s_is_term f fd) (T : Txt K mg aS a1 a2) (c_has_shape : C8.Cal P w K mg base 2 "has_shape" spHasShapeL []) (c_parts_of : C8.Cal P w K mg base 1 "parts_of" spPartsOf []) : FnOk P w K mg base CX0 3 f fd ["value"] spIsTermL := by
  refine F.ok sc_is_term (fun vs H Q E h => ?_) (fun cdv A outer s H vs Q E hr h => ?_)
  · obtain ⟨L, rfl, _⟩ := h
    rfl
  obtain ⟨L0, rfl, h0, q⟩ := h
  refine ⟨_, (pss_cons (ps_par (i := 1) (j := 2) rfl sc_is_term.nd rfl rfl (by decide) rfl rfl (pa_cons (pe_lst (pa_cons (pv 0) pa_nil)) (pa_cons pe_int pa_nil)) rfl)
        (pss_cons (ps_while PassesOwn.never (pt_cmpR (kNeD K rfl hr.units) (pv 1) (pe_lst pa_nil) (nomark _))
        (pss_cons (ps_set (i := 3) sc_is_term.nd rfl (Or.inl rfl) (kBm0 K rfl PySem.F.plainAttrs_list PySem.F.slot_list_pop PySem.F.type_list_pop mt_pop (pv 1)))
        (pss_cons (ps_aug (i := 2) sc_is_term.nd rfl (Or.inl rfl) pe_int ip_add)
        (pss_cons (ps_if (pt_cmpR op_gt (pv 2) (C8.pe_gc rfl T.g_MOST_NODES) (nomark _))
        (pss_one (ps_ret pe_bl))
        pss_nil)
        (pss_one (ps_if (pt_not (pt_val (pe_callB (kIsi K rfl) rfl T.b_isinstance bt_isinstance (pa_cons (pv 3) (pa_cons (pTy rfl T.b_str bt_str) pa_nil)))))
        (pss_cons (ps_if (pt_not (pt_val (C8.pe_c c_has_shape hr (by decide) rfl (pa_cons (pv 3) pa_nil))))
        (pss_one (ps_ret pe_bl))
        pss_nil)
        (pss_one (ps_expr (kBm K rfl PySem.F.plainAttrs_list PySem.F.slot_list_extend PySem.F.type_list_extend (kExtT K rfl) (pv 1) (pa_cons (C8.pe_c c_parts_of hr (by decide) rfl (pa_cons (pv 3) pa_nil)) pa_nil)))))
        (pss_one (ps_if (pt_cmpR (kNeD K rfl hr.units) (pv 3) (C8.pe_gc rfl T.g_IN) (nomark _))
        (pss_one (ps_ret pe_bl))
        pss_nil))))))))
        (pss_one (ps_ret pe_bl)))), ?_⟩
  refine ⟨_, rfl, sz1, fun L hL => ⟨_, _, rfl, ?_⟩⟩
  have kL := same_new hL (.lst [.ref L0])
  refine while_by (fun σ H' => σ = [some (.ref L0), some (.ref L), some (.int 0), none] ∧ H' = upd H L (.lst [.ref L0])) (fun _ _ => 0) ⟨rfl, rfl⟩ ?hs ?mono
  case mono => exact fun σ H Q Q' m ⟨v, e, hl, f⟩ => ⟨v, e, hl, fun p hp => let ⟨d, e, h1, h2, h3, h4, b, hb, q⟩ := f p hp; ⟨d, e, h1, h2, h3, h4, b, hb, m _ _ q⟩⟩
  case hs =>
    rintro σ H1 ⟨rfl, rfl⟩
    refine ⟨_, rfl, Nat.zero_le _, fun p0 hp0 => ?_⟩
    have k0 := same_new hp0 (.lst [])
    have hl := k0 _ _ (upd_same (H := H) (a := L) (o := .lst [.ref L0]))
    have hl0 := k0 _ _ (kL _ _ h0)
    refine ⟨_, _, .lst (SqL.of hl) (.cons (.lst (SqL.of hl0) (.cons (.str _) (.cons (.int _) .nil))) .nil), .lst (SqL.of upd_same) .nil, by decide +kernel, by decide +kernel, _, rfl, iteTd (by decide +kernel) ?_⟩
    refine ⟨_, rfl, .inl ⟨rfl, _, SqL.of hl⟩, _, _, _, rfl, rfl, hl, rfl, ?_⟩
    have hne : L0 ≠ L := fun z => by rw [z, hL] at h0; cases h0
    refine ⟨_, rfl, _, _, rfl, rfl, ?_⟩
    refine ⟨_, rfl, _, _, rfl, rfl, _, rfl, iteFd (by decide +kernel) ?_⟩
    refine ⟨_, rfl, _, _, _, _, _, rfl, .ty _, ty_lst ((upd_ne hne).trans hl0), kls, _, rfl, iteT ?_⟩
    exact ⟨_, rfl, L0, _, rfl, (upd_ne hne).trans hl0, _, rfl, iteT (q _ (same_at (kL.trans' k0) hL))⟩
end
/-! ## the def that hears what a call says -/
open LamX in
def TTheard (CT : Addr) : (XK → Hp → VK → Prop) → Hp → VK → Prop := fun tl H Q => ∀ Q' : VK, (∀ v H', Q v H' → Q' v H') →
  tl (fun cls d H' => cls = .ref CT ∧ ∃ dd, d = some dd ∧ H' dd = some (.xd [("limit", .int 9), ("what", .str "nodes")]) ∧ ∀ L, H' L = none → Q (.ref L) (upd H' L (.lst [.str "nodes", .int 9]))) H Q'
theorem takes_len {X : Cx} {W : WX} (t : Takes X W) : Takes X (fun c d σ H => σ.length = X.N.length → W c d σ H) := fun u s' ⟨a, B, sI, pins, σ, H, cls, d, e, I, nb, up, sky, na, os, ag, wh⟩ =>
  t u s' ⟨a, B, sI, pins, σ, H, cls, d, e, I, nb, up, sky, na, os, ag, wh I.len⟩
section
variable {CL CT fI : Addr} {mc : Value}
abbrev s_law_heard : Stmt := top 54
abbrev N_law_heard : List Str := ["_law_call", "_law_told", "e"]
theorem sc_law_heard : FnScope N_law_heard ["_law_call"] (defScope s_law_heard) := ⟨rfl, rfl, rfl, by decide +kernel, rfl, by decide +kernel, by decide +kernel⟩
theorem heard_gives {X : Cx} {g : Addr} {cdg : Value} {q : Str} (M : TMany X.K X.mg CL CT fI mc) : LamX.GivesTo X N_law_heard "_law_heard" (defScope s_law_heard) g cdg (defBody s_law_heard) "_law_call" q (TTheard CT) := by
  intro f c' s H Q tl act hc h
  refine ⟨_, pss_cons (ps_set (i := 1) sc_law_heard.nd rfl (Or.inl rfl) pe_non) (pss_cons (ps_try_as (i := 2) (c := .ref CT)
      (tb := fun W D σ H => ∃ Ech : XK, (∀ cls d σ' H', Ech cls d H' → σ'.length = 3 → W cls d σ' H') ∧ σ[0]? = some (some (.ref f)) ∧ H c' = some (LamX.CodeO c' q) ∧ tl Ech H (fun v H1 => D.nx (σ.set 1 (some v)) H1))
      rfl rfl sc_law_heard.nd rfl rfl ⟨rfl, by decide, .inl M.gC⟩ LamX.takes0 (fun W pn xe tk _ => ?_)
      (fun a oe cls d pn hz hf => pss_one (ps_set (i := 1) sc_law_heard.nd rfl (Or.inl rfl) (pe_lst (pa_cons (pe_xf M.xf M.noW hz hf (pv 2)) (pa_cons (pe_xf M.xf M.noL hz hf (pv 2)) pa_nil)))))) (pss_one (ps_ret (pv 1)))), ?_⟩
  · refine ⟨fun pins s' σ H' D I h' => ?_⟩
    obtain ⟨Ech, hW, h1, h2, h3⟩ := h'
    exact (pss_one (ps_set (i := 1) sc_law_heard.nd rfl (Or.inl rfl) (act _ pn xe Ech _ _ (takes_len tk) (fun cls d σ' H' e z => hW cls d σ' H' e z)))).run pins s' σ H' D I ⟨h1, h2, h3⟩
  · refine ⟨_, ?_, rfl, hc, h _ fun v H1 hv => ⟨v, rfl, hv⟩⟩
    rintro cls d σ' H' ⟨rfl, dd, rfl, hdd, hq⟩ hl
    match σ', hl with
    | [x0, x1, x2], _ =>
      refine ⟨true, M.te, fun _ a ha => ?_, fun z => (nomatch z)⟩
      refine ⟨_, rfl, rfl, rfl, dd, _, _, rfl, hdd, rfl, _, rfl, rfl, rfl, dd, _, _, rfl, hdd, rfl, sz rfl, fun L hL => ?_⟩
      exact ⟨_, rfl, hq L hL⟩
end
end FY


set_option Elab.async false
set_option linter.all false
set_option maxRecDepth 100000
set_option maxHeartbeats 4000000
namespace FY
open PySem L2 FYR
theorem bl_ne (a b : Bool) (h : a = b) : (!decide (V.bl a = V.bl b)) = false := by subst h; simp
theorem st_ne (a b : List Bool) (h : a = b) : (!decide (V.str (tx a) = V.str (tx b))) = false := by subst h; simp
theorem le9 (t : Tm) : decide (t.nodes ≤ 9) = decide ((t.nodes : Int) < 10) := by
  by_cases z : t.nodes ≤ 9
  · rw [decide_eq_true z, decide_eq_true (by omega)]
  · rw [decide_eq_false z, decide_eq_false (by omega)]
theorem powN {n m a b : Nat} (h : n ≤ a + 1) (hm : m ≤ b) : 2 ^ (n - 1) * m ≤ 2 ^ a * b := Nat.mul_le_mul (Nat.pow_le_pow_right (by decide) (by omega)) hm
theorem pow9' {n m : Nat} (h : n ≤ 9) (hm : m ≤ 6) : 2 ^ (n - 1) * m ≤ 8000 := Nat.le_trans (powN (a := 8) h hm) (by decide)
theorem pow5 {n m : Nat} (h : n ≤ 5) (hm : m ≤ 6) : 2 ^ (n - 1) * m ≤ 96 := Nat.le_trans (powN (a := 4) h hm) (by decide)
theorem pow7 {n m : Nat} (h : n ≤ 7) (hm : m ≤ 96) : 2 ^ (n - 1) * m ≤ 40000 := Nat.le_trans (powN (a := 6) h hm) (by decide)
theorem pow13 {n m : Nat} (h : n ≤ 13) (hm : m ≤ 6) : 2 ^ (n - 1) * m ≤ 40000 := Nat.le_trans (powN (a := 12) h hm) (by decide)
theorem fnC_of {P : Program} {w : World} {K : PySem.W.Frag} {mg : Str → Option Value} {base : Heap} {x qual : Str} {st : Stmt} {f : Addr} {fd : FuncData} {N ps : List Str} {k : Nat} {sp : Sp} {cv : Value} (F : Fun K x qual st f fd) (hcv : fd.code = cv) (S : FnScope N ps (defScope st)) (len : ∀ vs H Q E, sp vs H Q E → vs.length = ps.length)
    (hbody : ∀ (A : Around) (outer : List Env) (s : Shared) (H : Hp) (vs : List V) (Q : VK) (E : XK), Room k (A.deeper (PyProof.Rows.envOfC qual (defScope st) s.heap.objs.size f cv)) → sp vs H Q E →
      ∃ t, PSs (cxOf CX0 P w K mg base N qual (defScope st) f cv A outer s H E).nox (defBody st) t ∧ t { nx := fun _ H' => Q .non H', rt := Q } (L2.start N vs) H) : FnOk P w K mg base CX0 (k + 1) f fd ps sp := by
  obtain ⟨oc, od, kV, doc, pm, an, cdv, ct, osl, rfl, lk, hcd⟩ := F.ex
  obtain rfl : cdv = cv := hcv
  exact fn_of lk hcd S len fun A outer s H vs Q E hr hsp => by
    obtain ⟨t, ht, hq⟩ := hbody A outer s H vs Q E hr hsp
    exact ⟨t, ht.nox, hq⟩
/-! heaps but for the tables -/
theorem ExtN_tups {H H' : Hp} (e : LamX.ExtN H H') : Tups H H' := fun a xs h => e a _ h (fun ps z => nomatch z)
theorem ExtN_lst {H H' : Hp} (e : LamX.ExtN H H') {a : Addr} {xs : List V} (h : H a = some (.lst xs)) : H' a = some (.lst xs) := e a _ h (fun ps z => nomatch z)
theorem ExtN_pot {p : Addr} {H H' : Hp} (e : LamX.ExtN H H') (h : Pot p H) : Pot p H' := by
  obtain ⟨x, y, h, r⟩ := h
  exact ⟨x, y, ExtN_lst e h, r⟩
theorem Due.ext {H H' : Hp} {v : V} {t : Tm} (h : Due H v t) (e : LamX.ExtN H H') : Due H' v t := h.keep (ExtN_tups e) fun a xs z _ => ExtN_lst e z
theorem Due.same {H H' : Hp} {v : V} {t : Tm} (h : Due H v t) (e : Same H H') : Due H' v t := h.ext (.of e)
theorem ext_of {H H' : Hp} (s : Same H H') : LamX.ExtN H H' := .of s
def KpN (p : Addr) (H H' : Hp) : Prop := ∀ b o, b ≠ p → (∀ ps, o ≠ .tbl ps) → H b = some o → H' b = some o
theorem KpN.of {p : Addr} {H H1 H2 : Hp} (a : Kp p H H1) (b : LamX.ExtN H1 H2) : KpN p H H2 := fun x o n t e => b x o (a x o n e) t
theorem tabs_kp {p : Addr} {T : List (Addr × Str)} {H H' : Hp} (pt : Pot p H) (k : Kp p H H') (t : LamX.Tabs T H) : LamX.Tabs T H' := fun q hq => by
  obtain ⟨ps, h1, h2, h3⟩ := t q hq
  obtain ⟨x, y, hp, _⟩ := pt
  refine ⟨ps, k _ _ (fun z => ?_) h1, h2, fun pos cv hc => ?_⟩
  · rw [z, hp] at h1
    cases h1
  · obtain ⟨c, rfl, hcc⟩ := h3 pos cv hc
    refine ⟨c, rfl, k _ _ (fun z => ?_) hcc⟩
    rw [z, hp] at hcc
    exact nomatch (Option.some.inj hcc)
theorem heardI {CT : Addr} {tl : XK → Hp → VK → Prop} {H : Hp} {Q : VK} {t : Tm}
    (h : ∀ (Q' : VK) (E : XK), (∀ H' r, Same H H' → t.nodes < 10 → TA H' r t → Q' r H') → (∀ H' d, Same H H' → 10 ≤ t.nodes → H' d = some (.xd [("limit", .int 9), ("what", .str "nodes")]) → E (.ref CT) (some d) H') → tl E H Q')
    (hc : ∀ H' r, Same H H' → Due H' r t → Q r H') : TTheard CT tl H Q := fun Q' hQ =>
  h Q' _ (fun H' r s hn tr => hQ _ _ (hc _ _ s (.inl ⟨hn, tr⟩))) (fun H' d s hn hd => ⟨rfl, d, rfl, hd, fun L hL => hc _ _ (s.trans' (same_new hL _)) (.inr ⟨hn, L, rfl, upd_same⟩)⟩)
theorem eqv_tm : ∀ t : Tm, PyData.eqv t.data t.data = true := by
  intro t
  induction t <;> simp_all [Tm.data, PyData.eqv, PyData.eqvAll]
theorem eqv_due (t : Tm) : PyData.eqv (dueD t) (dueD t) = true := by
  unfold dueD
  by_cases h : t.nodes < 10
  · rw [if_pos h]; exact eqv_tm t
  · rw [if_neg h]; decide +kernel
theorem neD {d : PyData} (h : PyData.eqv d d = true) : (!PyData.eqv d d) = false := by rw [h]; rfl
/-- is_term of what is due -/
theorem isT_due {vs : List V} {H : Hp} {Q : VK} {E : XK} {v : V} {t : Tm} (e : vs = [v]) (d : Due H v t) (q : ∀ H', Same H H' → Q (.bl (decide (t.nodes ≤ 9))) H') : spIsTermU vs H Q E := by
  rcases d with ⟨h, ta⟩ | ⟨h, L, rfl, hL⟩
  · exact .inl ⟨v, t, e, ta, by omega, q⟩
  · refine .inr ⟨L, e, hL, fun H' s => ?_⟩
    have z := q H' s
    rw [decide_eq_false (by omega)] at z
    exact z
section
variable {X : Cx} {k : Nat} {g c P : Addr} {fdg : FuncData} {CL CT fI : Addr} {mc : Value} {params : Arguments} {body : Expr} {scope : Scope} {t : XK → TE} {p lpos pos : Pos}
theorem lam_heard (F : Fun X.K "_law_heard" "_law_heard" s_law_heard g fdg) (hm : X.mg "_law_heard" = some (.ref g)) (hb : Binds X.K fdg ["_law_call"] []) (M : TMany X.K X.mg CL CT fI mc) (TB : LamX.TabB X.base X.mg c P) (hcode : X.env.code = .ref c) (hr : Room (k + 2) X.A) (hg : Gl X "_law_heard") {sc : Scope} (hsc : X.env.scope = sc)
    (hbody : ∀ (A : Around) (outer : List Env) (s : Shared) (H : Hp) (E : XK) (f c' : Addr), Room k (A.deeper (LamX.lamEnv X scope s.heap.objs.size f c')) → PE (LamX.lamCx X A outer s H E scope f c') body (t E))
    (L : LamX.lamSB sc scope = true := by decide +kernel) (hdef : defaultsOf params X.env = ([], []) := by rfl)
    (hbind : ∀ (q : Str) (cl : List (Str × Addr)) (pm cv ctv : Value), bindArgs (PySem.W.kla_fn "<lambda>" q params body scope cl pm cv ctv) ⟨[], []⟩ = pure [] := by intro _ _ _ _ _; rfl) :
    PE X (.Call (.Name "_law_heard" p) [.Lambda params body scope lpos] [] pos) (LamX.tLam [(P, X.env.qual ++ "<lambda>")] (TTheard CT) t) := by
  obtain ⟨oc, od, kV, doc, pm, an, cdv, ct, osl, rfl, lk, hcd⟩ := F.ex
  exact LamX.pe_lamcall hg hm F.kp lk hcd hb sc_law_heard rfl (Or.inl rfl) (heard_gives M) TB hcode (List.mem_singleton.mpr rfl) (fun q hq _ => by rw [List.mem_singleton.mp hq]) hr (by rw [hsc]; exact LamX.lamS_by L) hdef hbind hbody
end
abbrev tq : Str := (PyProof.Rows.envOfC "_law_right" (defScope (top 56)) 0 0 .none).qual ++ "<lambda>"
def spRight (P : Addr) : Sp := fun vs H Q _ => ∃ p, vs = [.ref p] ∧ Pot p H ∧ LamX.Tabs [(P, tq)] H ∧ ∀ H', KpN p H H' → Pot p H' → LamX.Tabs [(P, tq)] H' → Q (.bl true) H'
section
variable {P : Program} {w : World} {K : PySem.W.Frag} {mg : Str → Option Value} {base : Heap} {aS a1 a2 : Addr} {f : Addr} {fd : FuncData} {CL CT fI : Addr} {mc : Value} {c Pt g : Addr} {fdg : FuncData}
abbrev s_law_right : Stmt := top 56
abbrev N_law_right : List Str := ["_law_pot_here", "_law_one", "_law_other", "_law_stream_here", "_law_due_here", "_law_told", "_law_term_here"]
theorem sc_law_right : FnScope N_law_right ["_law_pot_here"] (defScope s_law_right) := ⟨rfl, rfl, rfl, by decide +kernel, rfl, by decide +kernel, by decide +kernel⟩
theorem ok_law_right (F : Fun K "_law_right" "_law_right" s_law_right f fd) (hcv : fd.code = .ref c) (T : Txt K mg aS a1 a2) (M : TMany K mg CL CT fI mc) (TB : LamX.TabB base mg c Pt) (FH : Fun K "_law_heard" "_law_heard" s_law_heard g fdg) (mH : mg "_law_heard" = some (.ref g)) (bH : Binds K fdg ["_law_call"] []) (c__law_draw : C8.Cal P w K mg base 1 "_law_draw" spDraw []) (c__law_term : C8.Cal P w K mg base 12 "_law_term" (spTerm 9) []) (c__law_stream : C8.Cal P w K mg base 3 "_law_stream" spStream []) (c__law_nodes : C8.Cal P w K mg base 50 "_law_nodes" (spNodes 50) []) (c__law_put_in : C8.Cal P w K mg base 21 "_law_put_in" (spPutBy 20) []) (c__law_plain : C8.Cal P w K mg base 42 "_law_plain" (spPlainBy 20) []) (c__law_due : C8.Cal P w K mg base 51 "_law_due" spDue []) (c__law_flow : C8.Cal P w K mg base 43 "_law_flow" (spFlowL 40) []) (c_is_term : C8.Cal P w K mg base 3 "is_term" spIsTermU []) (c_flow_of : C8.Cal P w K mg base 13 "flow_of" spFlowOf []) (x_put_in : CalX P w K mg base 53 "put_in" (spPutIn CT)) (xk_put_in : CalXK P w K mg base 53 "put_in" (spPutIn CT) ["other", "term"] (fun _ ws => ws.reverse) (fun _ zs => zs.reverse)) (x_plain : CalX P w K mg base 53 "plain" (spPlain CT)) (xk_plain : CalXK P w K mg base 53 "plain" (spPlain CT) ["term"] (fun _ ws => ws) (fun _ zs => zs)) : FnOk P w K mg base CX0 56 f fd ["_law_pot_here"] (spRight Pt) := by
  refine fnC_of F hcv sc_law_right (fun vs H Q E h => ?_) (fun A outer s H vs Q E hr h => ?_)
  · obtain ⟨p, rfl, _⟩ := h
    rfl
  obtain ⟨p, rfl, p0, tb0, q⟩ := h
  refine ⟨_, (pss_cons (ps_asg (pe_tup (pa_cons (C8.pe_c c__law_term hr (by decide) rfl (pa_cons (pv 0) (pa_cons (pe_op op_add pe_int (C8.pe_c c__law_draw hr (by decide) rfl (pa_cons (pv 0) (pa_cons pe_int pa_nil)))) pa_nil))) (pa_cons (C8.pe_c c__law_term hr (by decide) rfl (pa_cons (pv 0) (pa_cons (pe_op op_add pe_int (C8.pe_c c__law_draw hr (by decide) rfl (pa_cons (pv 0) (pa_cons pe_int pa_nil)))) pa_nil))) pa_nil))) (kTupG (n := 2) K rfl rfl (pgs_cons (pg_name (i := 1) sc_law_right.nd rfl (Or.inr rfl)) (pgs_cons (pg_name (i := 2) sc_law_right.nd rfl (Or.inr rfl)) pgs_nil))))
        (pss_cons (ps_set (i := 3) sc_law_right.nd rfl (Or.inl rfl) (C8.pe_c c__law_stream hr (by decide) rfl (pa_cons (pv 0) (pa_cons pe_int pa_nil))))
        (pss_cons (ps_set (i := 4) sc_law_right.nd rfl (Or.inl rfl) (C8.pe_c c__law_due hr (by decide) rfl (pa_cons (C8.pe_c c__law_put_in hr (by decide) rfl (pa_cons (pv 1) (pa_cons (pv 2) pa_nil))) pa_nil)))
        (pss_cons (ps_set (i := 5) sc_law_right.nd rfl (Or.inl rfl) (lam_heard FH mH bH M TB rfl hr rfl (sc := defScope s_law_right) rfl (fun _ _ _ _ E _ _ hr => (pe_cX x_put_in hr (by decide) rfl (passes_call (takes_of rfl rfl rfl rfl) (fun _ _ _ _ h => h)) (pa_cons (pv 1) (pa_cons (pv 2) pa_nil))))))
        (pss_cons (ps_if (PW.pt (pw_or (pt_cmpR (kNeD K rfl hr.units) (pv 5) (pv 4) (nomark _)) (pw_or1 (pt_cmpR (kNeD K rfl hr.units) (lam_heard FH mH bH M TB rfl hr rfl (sc := defScope s_law_right) rfl (fun _ _ _ _ E _ _ hr => (pe_cXK xk_put_in hr (by decide) rfl (passes_call (takes_of rfl rfl rfl rfl) (fun _ _ _ _ h => h)) (pk_cons (pv 2) (pk_cons (pv 1) pk_nil))))) (pv 4) (nomark _)))))
        (pss_one (ps_ret pe_bl))
        pss_nil)
        (pss_cons (ps_if (PW.pt (pw_and (pt_val (C8.pe_c c_is_term hr (by decide) rfl (pa_cons (pv 5) pa_nil))) (pw_and1 (pt_cmpR op_ne (C8.pe_c c_flow_of hr (by decide) rfl (pa_cons (pv 5) (pa_cons (pv 3) pa_nil))) (C8.pe_c c__law_flow hr (by decide) rfl (pa_cons (pv 1) (pa_cons (C8.pe_c c__law_flow hr (by decide) rfl (pa_cons (pv 2) (pa_cons (pv 3) pa_nil))) pa_nil))) (nomark _)))))
        (pss_one (ps_ret pe_bl))
        pss_nil)
        (pss_cons (ps_if (PW.pt (pw_or (pt_cmpR (kNeD K rfl hr.units) (pe_cX x_put_in hr (by decide) rfl passF (pa_cons pe_str (pa_cons (pv 2) pa_nil))) (pv 2) (nomark _)) (pw_or1 (pt_cmpR (kNeD K rfl hr.units) (pe_cX x_put_in hr (by decide) rfl passF (pa_cons (pv 1) (pa_cons pe_str pa_nil))) (pv 1) (nomark _)))))
        (pss_one (ps_ret pe_bl))
        pss_nil)
        (pss_cons (ps_for PassesOwn.never rfl (kList K rfl (pe_lst (pa_cons (pv 1) (pa_cons (pe_tup (pa_cons pe_str (pa_cons (pv 2) (pa_cons (pv 1) pa_nil)))) pa_nil)))) (pg_name (i := 6) sc_law_right.nd rfl (Or.inr rfl))
        (pss_cons (ps_set (i := 4) sc_law_right.nd rfl (Or.inl rfl) (C8.pe_c c__law_due hr (by decide) rfl (pa_cons (C8.pe_c c__law_plain hr (by decide) rfl (pa_cons (pv 6) pa_nil)) pa_nil)))
        (pss_cons (ps_if (pt_cmpR op_ne (C8.pe_c c_is_term hr (by decide) rfl (pa_cons (pv 6) pa_nil)) (pe_cmpR op_lt (C8.pe_c c__law_nodes hr (by decide) rfl (pa_cons (pv 6) pa_nil)) pe_int (nomark _)) (nomark _))
        (pss_one (ps_ret pe_bl))
        pss_nil)
        (pss_cons (ps_set (i := 5) sc_law_right.nd rfl (Or.inl rfl) (pe_ifExp (pt_val (C8.pe_c c_is_term hr (by decide) rfl (pa_cons (pv 6) pa_nil))) (lam_heard FH mH bH M TB rfl hr rfl (sc := defScope s_law_right) rfl (fun _ _ _ _ E _ _ hr => (pe_cX x_plain hr (by decide) rfl (passes_call (takes_of rfl rfl rfl rfl) (fun _ _ _ _ h => h)) (pa_cons (pv 6) pa_nil)))) (pv 4)))
        (pss_cons (ps_if (pt_cmpR (kNeD K rfl hr.units) (pv 5) (pv 4) (nomark _))
        (pss_one (ps_ret pe_bl))
        pss_nil)
        (pss_one (ps_if (PW.pt (pw_and (pt_val (C8.pe_c c_is_term hr (by decide) rfl (pa_cons (pv 5) pa_nil))) (pw_and1 (PW.pt (pw_or (pt_cmpR (kNeD K rfl hr.units) (pe_cXK xk_plain hr (by decide) rfl passF (pk_cons (pv 5) pk_nil)) (pv 5) (nomark _)) (pw_or1 (pt_cmpR op_ne (C8.pe_c c_flow_of hr (by decide) rfl (pa_cons (pv 5) (pa_cons (pv 3) pa_nil))) (C8.pe_c c__law_flow hr (by decide) rfl (pa_cons (pv 6) (pa_cons (pv 3) pa_nil))) (nomark _))))))))
        (pss_one (ps_ret pe_bl))
        pss_nil)))))))
        (pss_one (ps_ret pe_bl)))))))))), ?_⟩
  refine ⟨_, rfl, _, rfl, p, _, rfl, p0, by decide, by decide, fun d H1 d0 d1 k1 p1 => ⟨_, _, rfl, rfl, p, _, rfl, p1, by omega, by omega, by decide, fun v1 t1 H2 ht1 hn1 k2 p2 => ?_⟩⟩
  refine ⟨_, rfl, _, rfl, p, _, rfl, p2, by decide, by decide, fun d' H3 e0 e1 k3 p3 => ⟨_, _, rfl, rfl, p, _, rfl, p3, by omega, by omega, by decide, fun v2 t2 H4 ht2 hn2 k4 p4 => ⟨sz rfl, fun T0 hT0 => ?_⟩⟩⟩
  have n1 : t1.nodes ≤ 7 := by omega
  have n2 : t2.nodes ≤ 5 := by omega
  refine ⟨_, _, rfl, SqT.of upd_same, rfl, _, _, rfl, _, _, rfl, rfl, ?_⟩
  have p5 := p4.same (same_new hT0 (.tup [v1, v2]))
  refine ⟨_, rfl, p, _, rfl, p5, by decide, by decide, fun bs H6 hbs k6 p6 => ?_⟩
  have hb6 : bs.length ≤ 6 := by omega
  have kk6 : Kp p H H6 := (((k1.trans k2).trans k3).trans k4).trans ((kp_new hT0 _).trans k6)
  have tu1 : Tups H4 H6 := (Tups.of (same_new hT0 _)).trans (p5.tups k6)
  have u1 : TA H6 v1 t1 := ((ht1.keep (p2.tups k3)).keep (p3.tups k4)).keep tu1
  have u2 : TA H6 v2 t2 := ht2.keep tu1
  have tb6 : LamX.Tabs [(Pt, tq)] H6 := tabs_kp p0 kk6 tb0
  have dd1 := t1.dep_le
  have dd2 := t2.dep_le
  have dd3 := dep_put t2 t1
  refine ⟨_, rfl, _, rfl, v1, t1, v2, t2, rfl, u1, u2, by omega, by omega, fun H7 r7 s7 tr7 => ⟨r7, put t1 t2, rfl, tr7, by omega, fun H8 due s8 hdue => ?_⟩⟩
  have s78 := s7.trans' s8
  have tb8 := tb6.ext s78
  refine ⟨tb8, fun H9 e9 tb9 => heardI (t := put t1 t2) (fun Q' E' hq he => ⟨_, rfl, _, rfl, v1, t1, v2, t2, rfl, (u1.keep (Tups.of s78)).keep (ExtN_tups e9), (u2.keep (Tups.of s78)).keep (ExtN_tups e9), by omega, by omega, fun h H' r s tr => hq _ _ s h tr, fun h H' d s hd => he _ _ s h hd⟩) (fun H10 told s10 htold => ?_)⟩
  have e10 : LamX.ExtN H6 H10 := ((ext_of s78).trans e9).trans (ext_of s10)
  have due10 := (hdue.ext e9).same s10
  refine ⟨_, rfl, _, rfl, _, _, htold.dp, due10.dp, shp_due _, shp_due _, _, rfl, iteFd (neD (eqv_due _)) ?_⟩
  have tb10 := tb9.ext s10
  refine ⟨tb10, fun H11 e11 tb11 => heardI (t := put t1 t2) (fun Q' E' hq he => ⟨_, rfl, _, rfl, rfl, v1, t1, v2, t2, rfl, u1.keep (ExtN_tups (e10.trans e11)), u2.keep (ExtN_tups (e10.trans e11)), by omega, by omega, fun h H' r s tr => hq _ _ s h tr, fun h H' d s hd => he _ _ s h hd⟩) (fun H12 told2 s12 htold2 => ?_)⟩
  have e12 : LamX.ExtN H6 H12 := (e10.trans e11).trans (ext_of s12)
  refine ⟨_, rfl, _, _, htold2.dp, ((due10.ext e11).same s12).dp, shp_due _, shp_due _, _, rfl, iteFd (neD (eqv_due _)) ?_⟩
  have told12 := (htold.ext e11).same s12
  have tb12 := tb11.ext s12
  refine ⟨_, rfl, isT_due rfl told12 (fun H13 s13 => ⟨_, rfl, ?_⟩)⟩
  have tb13 := tb12.ext s13
  by_cases z : (put t1 t2).nodes ≤ 9
  · obtain ⟨_, ta12⟩ : (put t1 t2).nodes < 10 ∧ TA H12 told (put t1 t2) := told12.elim id fun h => absurd h.1 (by omega)
    refine iteTd (by simpa using z) ⟨_, rfl, _, rfl, told, put t1 t2, bs, rfl, ta12.keep (Tups.of s13), z, by omega, pow9' z hb6, fun H14 s14 => ?_⟩
    have e14 : LamX.ExtN H6 H14 := e12.trans (ext_of (s13.trans' s14))
    have hpw : 2 ^ (t2.nodes - 1) * bs.length ≤ 96 := pow5 n2 hb6
    have hfl : (flow t2 bs).length ≤ 96 := Nat.le_trans (flow_len t2 bs) hpw
    refine ⟨_, rfl, _, rfl, _, rfl, v2, t2, bs, rfl, u2.keep (ExtN_tups e14), by omega, by omega, by omega, fun H15 s15 => ?_⟩
    refine ⟨v1, t1, flow t2 bs, rfl, u1.keep (ExtN_tups (e14.trans (ext_of s15))), by omega, by omega, pow7 n1 hfl, fun H16 s16 => ⟨rfl, _, rfl, iteFd (st_ne _ _ (flow_put t1 t2 bs)) ?_⟩⟩
    have eZ : LamX.ExtN H6 H16 := e14.trans (ext_of (s15.trans' s16))
    have tbZ := tb13.ext ((s14.trans' s15).trans' s16)
    refine ⟨_, rfl, .str "in", .inn, v2, t2, rfl, rfl, u2.keep (ExtN_tups eZ), by decide, by omega, fun _ H17 r17 s17 tr17 => ⟨_, rfl, _, _, tr17.dp, ((u2.keep (ExtN_tups eZ)).keep (Tups.of s17)).dp, shp_tm (by show t2.nodes ≤ 40; omega), shp_tm (by omega), _, rfl, iteFd (neD (eqv_tm t2)) ?_⟩, fun h => absurd h (by show ¬ 10 ≤ t2.nodes; omega)⟩
    have e17 := eZ.trans (ext_of s17)
    refine ⟨_, rfl, v1, t1, .str "in", .inn, rfl, u1.keep (ExtN_tups e17), rfl, by omega, by decide, fun _ H18 r18 s18 tr18 => ⟨_, rfl, t1.data, t1.data, (put_inn t1 ▸ tr18).dp, ((u1.keep (ExtN_tups e17)).keep (Tups.of s18)).dp, shp_tm (by omega), shp_tm (by omega), _, rfl, iteFd (neD (eqv_tm t1)) ?_⟩, fun h => absurd h (by rw [put_inn]; omega)⟩
    have e18 := e17.trans (ext_of s18)
    have tb18 := tbZ.ext (s17.trans' s18)
    refine ⟨_, rfl, _, rfl, _, rfl, sz rfl, fun T3 hT3 => ⟨sz rfl, fun L hL => ⟨_, rfl, ⟨_, SqL.of upd_same⟩, ?_⟩⟩⟩
    have sT := same_new hT3 (.tup [.str "then", v2, v1])
    have sL := same_new hL (.lst [v1, .ref T3])
    have hT3' := sL _ _ (upd_same (H := H18) (a := T3) (o := .tup [.str "then", v2, v1]))
    have eL := e18.trans (ext_of (sT.trans' sL))
    refine for_it walk_list (fun i σ H' => ∃ z4 z5 z6 : Option V, σ = [some (.ref p), some v1, some v2, some (.str (tx bs)), z4, z5, z6] ∧ LamX.ExtN (upd (upd H18 T3 (.tup [.str "then", v2, v1])) L (.lst [v1, .ref T3])) H' ∧ LamX.Tabs [(Pt, tq)] H') ⟨_, _, _, rfl, LamX.ExtN.refl _, tb18.ext (sT.trans' sL)⟩ (fun i σ H' _ ⟨_, _, _, _, e, _⟩ => SqL.of (ExtN_lst e upd_same)) ?_ ?_
    · rintro i x σ H20 H20' hi ⟨z4, z5, z6, rfl, e20, tb20⟩ ⟨rfl, hx⟩
      have E20 := eL.trans e20
      obtain ⟨tt, tx20, htt⟩ : ∃ tt : Tm, TA H20' x tt ∧ tt.nodes ≤ 13 := by
        match i, hx with
        | 0, hx =>
          obtain rfl : v1 = x := by simpa using hx
          exact ⟨t1, u1.keep (ExtN_tups E20), by omega⟩
        | 1, hx =>
          obtain rfl : V.ref T3 = x := by simpa using hx
          exact ⟨.thn t2 t1, ⟨_, _, _, rfl, ExtN_tups e20 _ _ hT3', u2.keep (ExtN_tups E20), u1.keep (ExtN_tups E20)⟩, by show t2.nodes + t1.nodes + 1 ≤ 13; omega⟩
      have ddp := dep_plain tt
      have ddt := tt.dep_le
      refine ⟨_, rfl, x, tt, rfl, tx20, by omega, by omega, fun H21 r21 s21 tr21 => ⟨r21, plain tt, rfl, tr21, by omega, fun H22 due s22 hdue => ?_⟩⟩
      have s2 := s21.trans' s22
      have t22 := tx20.keep (Tups.of s2)
      refine ⟨_, rfl, .inl ⟨x, tt, rfl, t22, by omega, fun H23 s23 => ?_⟩⟩
      have t23 := t22.keep (Tups.of s23)
      refine ⟨_, rfl, x, tt, rfl, t23, by omega, by omega, fun H24 s24 => ⟨_, _, rfl, rfl, rfl, _, rfl, iteFd (bl_ne _ _ (le9 tt)) ?_⟩⟩
      have t24 := t23.keep (Tups.of s24)
      have s4 := (s2.trans' s23).trans' s24
      refine ⟨_, rfl, .inl ⟨x, tt, rfl, t24, by omega, fun H25 s25 => ⟨_, rfl, ?_⟩⟩⟩
      have t25 := t24.keep (Tups.of s25)
      have s5 := s4.trans' s25
      have due25 := hdue.same ((s23.trans' s24).trans' s25)
      have tb25 := tb20.ext s5
      by_cases z9 : tt.nodes ≤ 9
      · refine iteTd (by simpa using z9) ⟨tb25, fun H26 e26 tb26 => heardI (t := plain tt) (fun Q' E' hq he => ⟨_, rfl, x, tt, rfl, t25.keep (ExtN_tups e26), z9, fun h H' r s tr => hq _ _ s h tr, fun h H' d s hd => he _ _ s h hd⟩) (fun H27 told s27 htold => ?_)⟩
        have dueX := (due25.ext e26).same s27
        have tX := (t25.keep (ExtN_tups e26)).keep (Tups.of s27)
        have eX := (e20.trans (ext_of s5)).trans (e26.trans (ext_of s27))
        have tbX := tb26.ext s27
        refine ⟨_, rfl, _, rfl, _, _, htold.dp, dueX.dp, shp_due _, shp_due _, _, rfl, iteFd (neD (eqv_due _)) ?_⟩
        refine ⟨_, rfl, isT_due rfl htold (fun H30 s30 => ⟨_, rfl, ?_⟩)⟩
        by_cases y9 : (plain tt).nodes ≤ 9
        · obtain ⟨_, taT⟩ := htold.elim id fun h => absurd h.1 (by omega)
          have ta30 := taT.keep (Tups.of s30)
          refine iteTd (by simpa using y9) ⟨_, rfl, rfl, _, plain tt, rfl, ta30, y9, fun _ H31 r31 s31 tr31 => ⟨_, rfl, (plain tt).data, (plain tt).data, (plain_plain tt ▸ tr31).dp, (ta30.keep (Tups.of s31)).dp, shp_tm (by omega), shp_tm (by omega), _, rfl, iteFd (neD (eqv_tm _)) ?_⟩, fun h => absurd h (by rw [plain_plain]; omega)⟩
          refine ⟨_, rfl, _, rfl, _, plain tt, bs, rfl, ta30.keep (Tups.of s31), y9, by omega, pow9' y9 hb6, fun H32 s32 => ?_⟩
          refine ⟨_, rfl, _, rfl, x, tt, bs, rfl, tX.keep (Tups.of ((s30.trans' s31).trans' s32)), by omega, by omega, pow13 htt hb6, fun H33 s33 => ⟨rfl, _, rfl, iteFd (st_ne _ _ (flow_plain tt bs)) ?_⟩⟩
          have sz3 := ((s30.trans' s31).trans' s32).trans' s33
          exact ⟨_, _, _, rfl, eX.trans (ext_of sz3), tbX.ext sz3⟩
        · exact iteFd (by simpa using y9) (iteF ⟨_, _, _, rfl, eX.trans (ext_of s30), tbX.ext s30⟩)
      · refine iteFd (by simpa using z9) ⟨_, rfl, ?_⟩
        have htold := due25
        have dueX := due25
        have tX := t25
        have eX := e20.trans (ext_of s5)
        have tbX := tb25
        refine ⟨_, rfl, _, rfl, _, _, htold.dp, dueX.dp, shp_due _, shp_due _, _, rfl, iteFd (neD (eqv_due _)) ?_⟩
        refine ⟨_, rfl, isT_due rfl htold (fun H30 s30 => ⟨_, rfl, ?_⟩)⟩
        by_cases y9 : (plain tt).nodes ≤ 9
        · obtain ⟨_, taT⟩ := htold.elim id fun h => absurd h.1 (by omega)
          have ta30 := taT.keep (Tups.of s30)
          refine iteTd (by simpa using y9) ⟨_, rfl, rfl, _, plain tt, rfl, ta30, y9, fun _ H31 r31 s31 tr31 => ⟨_, rfl, (plain tt).data, (plain tt).data, (plain_plain tt ▸ tr31).dp, (ta30.keep (Tups.of s31)).dp, shp_tm (by omega), shp_tm (by omega), _, rfl, iteFd (neD (eqv_tm _)) ?_⟩, fun h => absurd h (by rw [plain_plain]; omega)⟩
          refine ⟨_, rfl, _, rfl, _, plain tt, bs, rfl, ta30.keep (Tups.of s31), y9, by omega, pow9' y9 hb6, fun H32 s32 => ?_⟩
          refine ⟨_, rfl, _, rfl, x, tt, bs, rfl, tX.keep (Tups.of ((s30.trans' s31).trans' s32)), by omega, by omega, pow13 htt hb6, fun H33 s33 => ⟨rfl, _, rfl, iteFd (st_ne _ _ (flow_plain tt bs)) ?_⟩⟩
          have sz3 := ((s30.trans' s31).trans' s32).trans' s33
          exact ⟨_, _, _, rfl, eX.trans (ext_of sz3), tbX.ext sz3⟩
        · exact iteFd (by simpa using y9) (iteF ⟨_, _, _, rfl, eX.trans (ext_of s30), tbX.ext s30⟩)
    · rintro σ H20 ⟨z4, z5, z6, rfl, e20, tb20⟩
      exact q _ (KpN.of kk6 (eL.trans e20)) (ExtN_pot (eL.trans e20) p6) tb20
  · refine iteFd (by simpa using z) (iteF ?_)
    have eZ : LamX.ExtN H6 H13 := e12.trans (ext_of s13)
    have tbZ := tb13
    refine ⟨_, rfl, .str "in", .inn, v2, t2, rfl, rfl, u2.keep (ExtN_tups eZ), by decide, by omega, fun _ H17 r17 s17 tr17 => ⟨_, rfl, _, _, tr17.dp, ((u2.keep (ExtN_tups eZ)).keep (Tups.of s17)).dp, shp_tm (by show t2.nodes ≤ 40; omega), shp_tm (by omega), _, rfl, iteFd (neD (eqv_tm t2)) ?_⟩, fun h => absurd h (by show ¬ 10 ≤ t2.nodes; omega)⟩
    have e17 := eZ.trans (ext_of s17)
    refine ⟨_, rfl, v1, t1, .str "in", .inn, rfl, u1.keep (ExtN_tups e17), rfl, by omega, by decide, fun _ H18 r18 s18 tr18 => ⟨_, rfl, t1.data, t1.data, (put_inn t1 ▸ tr18).dp, ((u1.keep (ExtN_tups e17)).keep (Tups.of s18)).dp, shp_tm (by omega), shp_tm (by omega), _, rfl, iteFd (neD (eqv_tm t1)) ?_⟩, fun h => absurd h (by rw [put_inn]; omega)⟩
    have e18 := e17.trans (ext_of s18)
    have tb18 := tbZ.ext (s17.trans' s18)
    refine ⟨_, rfl, _, rfl, _, rfl, sz rfl, fun T3 hT3 => ⟨sz rfl, fun L hL => ⟨_, rfl, ⟨_, SqL.of upd_same⟩, ?_⟩⟩⟩
    have sT := same_new hT3 (.tup [.str "then", v2, v1])
    have sL := same_new hL (.lst [v1, .ref T3])
    have hT3' := sL _ _ (upd_same (H := H18) (a := T3) (o := .tup [.str "then", v2, v1]))
    have eL := e18.trans (ext_of (sT.trans' sL))
    refine for_it walk_list (fun i σ H' => ∃ z4 z5 z6 : Option V, σ = [some (.ref p), some v1, some v2, some (.str (tx bs)), z4, z5, z6] ∧ LamX.ExtN (upd (upd H18 T3 (.tup [.str "then", v2, v1])) L (.lst [v1, .ref T3])) H' ∧ LamX.Tabs [(Pt, tq)] H') ⟨_, _, _, rfl, LamX.ExtN.refl _, tb18.ext (sT.trans' sL)⟩ (fun i σ H' _ ⟨_, _, _, _, e, _⟩ => SqL.of (ExtN_lst e upd_same)) ?_ ?_
    · rintro i x σ H20 H20' hi ⟨z4, z5, z6, rfl, e20, tb20⟩ ⟨rfl, hx⟩
      have E20 := eL.trans e20
      obtain ⟨tt, tx20, htt⟩ : ∃ tt : Tm, TA H20' x tt ∧ tt.nodes ≤ 13 := by
        match i, hx with
        | 0, hx =>
          obtain rfl : v1 = x := by simpa using hx
          exact ⟨t1, u1.keep (ExtN_tups E20), by omega⟩
        | 1, hx =>
          obtain rfl : V.ref T3 = x := by simpa using hx
          exact ⟨.thn t2 t1, ⟨_, _, _, rfl, ExtN_tups e20 _ _ hT3', u2.keep (ExtN_tups E20), u1.keep (ExtN_tups E20)⟩, by show t2.nodes + t1.nodes + 1 ≤ 13; omega⟩
      have ddp := dep_plain tt
      have ddt := tt.dep_le
      refine ⟨_, rfl, x, tt, rfl, tx20, by omega, by omega, fun H21 r21 s21 tr21 => ⟨r21, plain tt, rfl, tr21, by omega, fun H22 due s22 hdue => ?_⟩⟩
      have s2 := s21.trans' s22
      have t22 := tx20.keep (Tups.of s2)
      refine ⟨_, rfl, .inl ⟨x, tt, rfl, t22, by omega, fun H23 s23 => ?_⟩⟩
      have t23 := t22.keep (Tups.of s23)
      refine ⟨_, rfl, x, tt, rfl, t23, by omega, by omega, fun H24 s24 => ⟨_, _, rfl, rfl, rfl, _, rfl, iteFd (bl_ne _ _ (le9 tt)) ?_⟩⟩
      have t24 := t23.keep (Tups.of s24)
      have s4 := (s2.trans' s23).trans' s24
      refine ⟨_, rfl, .inl ⟨x, tt, rfl, t24, by omega, fun H25 s25 => ⟨_, rfl, ?_⟩⟩⟩
      have t25 := t24.keep (Tups.of s25)
      have s5 := s4.trans' s25
      have due25 := hdue.same ((s23.trans' s24).trans' s25)
      have tb25 := tb20.ext s5
      by_cases z9 : tt.nodes ≤ 9
      · refine iteTd (by simpa using z9) ⟨tb25, fun H26 e26 tb26 => heardI (t := plain tt) (fun Q' E' hq he => ⟨_, rfl, x, tt, rfl, t25.keep (ExtN_tups e26), z9, fun h H' r s tr => hq _ _ s h tr, fun h H' d s hd => he _ _ s h hd⟩) (fun H27 told s27 htold => ?_)⟩
        have dueX := (due25.ext e26).same s27
        have tX := (t25.keep (ExtN_tups e26)).keep (Tups.of s27)
        have eX := (e20.trans (ext_of s5)).trans (e26.trans (ext_of s27))
        have tbX := tb26.ext s27
        refine ⟨_, rfl, _, rfl, _, _, htold.dp, dueX.dp, shp_due _, shp_due _, _, rfl, iteFd (neD (eqv_due _)) ?_⟩
        refine ⟨_, rfl, isT_due rfl htold (fun H30 s30 => ⟨_, rfl, ?_⟩)⟩
        by_cases y9 : (plain tt).nodes ≤ 9
        · obtain ⟨_, taT⟩ := htold.elim id fun h => absurd h.1 (by omega)
          have ta30 := taT.keep (Tups.of s30)
          refine iteTd (by simpa using y9) ⟨_, rfl, rfl, _, plain tt, rfl, ta30, y9, fun _ H31 r31 s31 tr31 => ⟨_, rfl, (plain tt).data, (plain tt).data, (plain_plain tt ▸ tr31).dp, (ta30.keep (Tups.of s31)).dp, shp_tm (by omega), shp_tm (by omega), _, rfl, iteFd (neD (eqv_tm _)) ?_⟩, fun h => absurd h (by rw [plain_plain]; omega)⟩
          refine ⟨_, rfl, _, rfl, _, plain tt, bs, rfl, ta30.keep (Tups.of s31), y9, by omega, pow9' y9 hb6, fun H32 s32 => ?_⟩
          refine ⟨_, rfl, _, rfl, x, tt, bs, rfl, tX.keep (Tups.of ((s30.trans' s31).trans' s32)), by omega, by omega, pow13 htt hb6, fun H33 s33 => ⟨rfl, _, rfl, iteFd (st_ne _ _ (flow_plain tt bs)) ?_⟩⟩
          have sz3 := ((s30.trans' s31).trans' s32).trans' s33
          exact ⟨_, _, _, rfl, eX.trans (ext_of sz3), tbX.ext sz3⟩
        · exact iteFd (by simpa using y9) (iteF ⟨_, _, _, rfl, eX.trans (ext_of s30), tbX.ext s30⟩)
      · refine iteFd (by simpa using z9) ⟨_, rfl, ?_⟩
        have htold := due25
        have dueX := due25
        have tX := t25
        have eX := e20.trans (ext_of s5)
        have tbX := tb25
        refine ⟨_, rfl, _, rfl, _, _, htold.dp, dueX.dp, shp_due _, shp_due _, _, rfl, iteFd (neD (eqv_due _)) ?_⟩
        refine ⟨_, rfl, isT_due rfl htold (fun H30 s30 => ⟨_, rfl, ?_⟩)⟩
        by_cases y9 : (plain tt).nodes ≤ 9
        · obtain ⟨_, taT⟩ := htold.elim id fun h => absurd h.1 (by omega)
          have ta30 := taT.keep (Tups.of s30)
          refine iteTd (by simpa using y9) ⟨_, rfl, rfl, _, plain tt, rfl, ta30, y9, fun _ H31 r31 s31 tr31 => ⟨_, rfl, (plain tt).data, (plain tt).data, (plain_plain tt ▸ tr31).dp, (ta30.keep (Tups.of s31)).dp, shp_tm (by omega), shp_tm (by omega), _, rfl, iteFd (neD (eqv_tm _)) ?_⟩, fun h => absurd h (by rw [plain_plain]; omega)⟩
          refine ⟨_, rfl, _, rfl, _, plain tt, bs, rfl, ta30.keep (Tups.of s31), y9, by omega, pow9' y9 hb6, fun H32 s32 => ?_⟩
          refine ⟨_, rfl, _, rfl, x, tt, bs, rfl, tX.keep (Tups.of ((s30.trans' s31).trans' s32)), by omega, by omega, pow13 htt hb6, fun H33 s33 => ⟨rfl, _, rfl, iteFd (st_ne _ _ (flow_plain tt bs)) ?_⟩⟩
          have sz3 := ((s30.trans' s31).trans' s32).trans' s33
          exact ⟨_, _, _, rfl, eX.trans (ext_of sz3), tbX.ext sz3⟩
        · exact iteFd (by simpa using y9) (iteF ⟨_, _, _, rfl, eX.trans (ext_of s30), tbX.ext s30⟩)
    · rintro σ H20 ⟨z4, z5, z6, rfl, e20, tb20⟩
      exact q _ (KpN.of kk6 (eL.trans e20)) (ExtN_pot (eL.trans e20) p6) tb20
end
end FY


set_option Elab.async false
set_option linter.all false
set_option maxRecDepth 100000
set_option maxHeartbeats 4000000
namespace FY
open PySem L2 FYR
theorem exm_self {K : PySem.W.Frag} {C : Addr} {dd : Option Addr} {cd : ClassData} {sl : Array (Option Value)} (l : K.lookup C = some ⟨.type "type", dd, .cls cd, sl⟩) (ty : PySem.W.typeIn K (.ref C) = some (.type "type")) (sb : PySem.W.subIn K (.ref C) (.type "BaseException") = some true) (kc : PySem.W.subIn K (.ref C) (.ref C) = some true) : PySem.W.exmOne K (.ref C) (.ref C) = some true := by
  have hc : (PySem.W.clsIn K C).isSome = true := by
    unfold PySem.W.clsIn
    rw [l] <;> rfl
  unfold PySem.W.exmOne PySem.W.kitCls
  rw [sb, if_pos (by rfl)]
  show (if ((PySem.W.clsIn K C).isSome && PySem.W.typeIn K (.ref C) == some (.type "type")) = true then PySem.W.subIn K (.ref C) (.ref C) else none) = some true
  rw [hc, ty, if_pos (by decide), kc]
theorem tab_mk {K : PySem.W.Frag} {x : Str} {f c P : Addr} {oc oc' : Value} {od od' : Option Addr} {sl sl' : Array (Option Value)} {fd : FuncData} {vs : Array Value} (a : PySem.W.nsIn K mainGlobals x = some (some (.ref f))) (l : K.lookup f = some ⟨oc, od, .func fd, sl⟩) (hc : fd.code = .ref c) (lc : K.lookup c = some ⟨oc', od', .fields vs, sl'⟩) (hv : vs[11]? = some (.ref P)) : PySem.W.tabIn K x = some (c, P) := by
  unfold PySem.W.tabIn
  rw [a]
  simp only [l, hc, lc, hv]
theorem sqL_ext {K : PySem.W.Frag} {H H' : Hp} {a : Addr} {xs : List V} (h : SqL K H a xs) (e : LamX.ExtN H H') : SqL K H' a xs :=
  h.elim (fun h => .inl (h.elim (fun h => .inl (ExtN_lst e h)) fun ⟨o, h⟩ => .inr ⟨o, e _ _ h (fun ps z => nomatch z)⟩)) fun h => .inr h
def spLaw (K : PySem.W.Frag) (Pt : Addr) : Sp := fun vs H Q _ => ∃ (L : Addr) (ns : List Int), vs = [.ref L] ∧ SqL K H L (ns.map V.int) ∧ LamX.Tabs [(Pt, tq)] H ∧ ∀ H', Q (.bl true) H'
section
variable {P : Program} {w : World} {K : PySem.W.Frag} {mg : Str → Option Value} {base : Heap} {aS a1 a2 : Addr} {f : Addr} {fd : FuncData} {Pt : Addr}
abbrev s_law : Stmt := top 57
abbrev N_law : List Str := ["_law_script", "_law_k"]
theorem sc_law : FnScope N_law ["_law_script"] (defScope s_law) := ⟨rfl, rfl, rfl, by decide +kernel, rfl, by decide +kernel, by decide +kernel⟩
theorem ok_law (F : Fun K "law" "law" s_law f fd) (T : Txt K mg aS a1 a2) (c__law_pot : C8.Cal P w K mg base 1 "_law_pot" (spPot K) []) (c__law_right : C8.Cal P w K mg base 56 "_law_right" (spRight Pt) []) : FnOk P w K mg base CX0 57 f fd ["_law_script"] (spLaw K Pt) := by
  refine F.ok sc_law (fun vs H Q E h => ?_) (fun cdv A outer s H vs Q E hr h => ?_)
  · obtain ⟨L, ns, rfl, _⟩ := h
    rfl
  obtain ⟨L, ns, rfl, hS, tb, q⟩ := h
  refine ⟨_, (pss_one (ps_ret (pe_callB (kAll K rfl rfl) rfl T.b_all bt_all (pa_cons (pe_lc (own := [("_law_k", 1)]) rfl sc_law.nd (pi_range1 rfl T.b_range (pa_cons (pe_callB (call_max2 rfl) rfl T.b_max bt_max (pa_cons pe_int (pa_cons (pe_callB (call_min2 rfl) rfl T.b_min bt_min (pa_cons pe_int (pa_cons (pe_callB (kLen K rfl) rfl T.b_len bt_len (pa_cons (pv 0) pa_nil)) pa_nil))) pa_nil))) pa_nil)) (blkOk_by (N := N_law) (sc := defScope s_law) (by decide +kernel)) (fun _ _ _ _ _ => (pg_name (i := 1) sc_law.nd rfl (Or.inl rfl))) (fun _ _ _ _ _ => pts_nil) (fun _ _ _ _ _ => (C8.pe_c c__law_right hr (by decide) rfl (pa_cons (C8.pe_c c__law_pot hr (by decide) rfl (pa_cons (pv 0) (pa_cons (pv 1) pa_nil))) pa_nil)))) pa_nil)))), ?_⟩
  refine ⟨_, rfl, _, _, rfl, .inl hS, _, _, rfl, _, _, rfl, ?_⟩
  obtain ⟨n, hn, hn2⟩ : ∃ n : Nat, (if (if ((ns.map V.int).length : Int) < 2 then ((ns.map V.int).length : Int) else 2) > 1 then (if ((ns.map V.int).length : Int) < 2 then ((ns.map V.int).length : Int) else 2) else 1) = (n : Int) ∧ n ≤ 2 := by
    refine ⟨((if (if ((ns.map V.int).length : Int) < 2 then ((ns.map V.int).length : Int) else 2) > 1 then (if ((ns.map V.int).length : Int) < 2 then ((ns.map V.int).length : Int) else 2) else 1)).toNat, ?_, ?_⟩ <;> split <;> split <;> omega
  refine ⟨_, rfl, ?_, ?_, fun D hD => lc_it walk_range (fun i H' => LamX.ExtN H H' ∧ LamX.Tabs [(Pt, tq)] H' ∧ H' D = some (.lst (List.replicate i (.bl true)))) ⟨ext_of (same_new hD _), tb.ext (same_new hD _), upd_same⟩ (fun _ _ _ _ => trivial) ?_ ?_⟩
  · rw [hn]; omega
  · rw [hn]; omega
  · rintro i x H1 H2 hi ⟨sm, tb1, hd⟩ ⟨rfl, hx⟩
    have hx : x = .int (i : Int) := by rw [hx]; exact congrArg V.int (Int.zero_add _)
    subst hx
    have hi2 : i < 2 := by rw [hn] at hi; omega
    refine ⟨rfl, tyI ⟨_, rfl, _, rfl, L, ns, _, rfl, sqL_ext hS sm, by omega, by omega, fun H3 p s3 hp3 pt => ⟨p, rfl, pt, tb1.ext s3, fun H4 k4 p4 tb4 => ?_⟩⟩⟩
    have hDp : D ≠ p := fun z => by rw [← z, hd] at hp3; cases hp3
    have hd4 : H4 D = some (.lst (List.replicate i (.bl true))) := k4 _ _ hDp (fun ps z => nomatch z) (s3 _ _ hd)
    refine ⟨_, hd4, ?_, fun b o e nt => ?_, fun r hr => ?_, ?_⟩
    · rw [List.length_replicate]
      exact Nat.lt_of_lt_of_le (show i < 100000 by omega) (by decide)
    · rw [upd_ne (ne_of_none e hD)]
      have e1 := sm b o e nt
      exact k4 b o (fun z => by rw [z, hp3] at e1; cases e1) nt (s3 _ _ e1)
    · obtain ⟨ps, h1, h2, h3⟩ := tb4 r hr
      refine ⟨ps, ?_, h2, fun pos cv hc => ?_⟩
      · rw [upd_ne (fun z => by rw [z, hd4] at h1; cases h1)]; exact h1
      · obtain ⟨c, rfl, hcc⟩ := h3 pos cv hc
        refine ⟨c, rfl, ?_⟩
        rw [upd_ne (fun z => by rw [z, hd4] at hcc; exact nomatch (Option.some.inj hcc))]
        exact hcc
    · rw [upd_same, List.replicate_succ']
  · rintro H1 ⟨sm, _, hd⟩
    refine ⟨_, List.replicate _ true, rfl, SqL.of (by rw [hd, List.map_replicate]), ?_⟩
    rw [show ∀ m, (List.replicate m true).all id = true from fun m => by simp]
    exact q _
end
theorem vals_rev : ∀ {zs : List V} {ws : List Value}, Vals zs ws → Vals zs.reverse ws.reverse
  | _, _, .nil => .nil
  | _, _, .cons r q => by
    rw [List.reverse_cons, List.reverse_cons]
    exact paired_app (vals_rev q) (.cons r .nil)
theorem kbn_put {K : PySem.W.Frag} {f : Addr} {fd : FuncData} (F : Fun K "put_in" "put_in" s_put_in f fd) : KBn K fd ["term", "other"] 0 ["other", "term"] (fun _ ws => ws.reverse) (fun _ zs => zs.reverse) := by
  obtain ⟨oc, od, kV, doc, pm, an, cdv, ct, osl, rfl, lk, hcd⟩ := F.ex
  refine ⟨fun s us ws _ hu hw => ?_, fun _ r => vals_rev r⟩
  match us, hu, ws, hw with
  | [], _, [a, b], _ => exact .of_eq rfl
theorem kbn_plain {K : PySem.W.Frag} {f : Addr} {fd : FuncData} (F : Fun K "plain" "plain" s_plain f fd) : KBn K fd ["term"] 0 ["term"] (fun _ ws => ws) (fun _ zs => zs) := by
  obtain ⟨oc, od, kV, doc, pm, an, cdv, ct, osl, rfl, lk, hcd⟩ := F.ex
  refine ⟨fun s us ws _ hu hw => ?_, fun _ r => r⟩
  match us, hu, ws, hw with
  | [], _, [a], _ => exact .of_eq rfl
theorem arr5 {n : Nat} (h : n ≤ 10) : n ≤ sizeLine := Nat.le_trans h (by decide)
theorem all_mk {l : PySem.W.OpenLaw} {w : World} {K : PySem.W.Frag} {h : Heap} {mg mb : Str → Option Value} {fa : Addr} {qp : Program} {loose : List Str} {mean : ExcName → Option Value} {dR : DefRec} {nmost : Nat} {CL CT cR Pt : Addr} (X : K.In h) (Tp : PyProof.Rows.Top qp loose mean mg mb h) (hrec : (PyProof.Rows.recsOf qp).find? (fun e => e.name == ("_law_right" : Str)) = some dR) (hfa : mg "law" = some (.ref fa))
    {nmC qC : Str} {NC : Addr} {bsC bmC : List Value} {snC : List Str} {subC : List Value} {abC : Bool} {colC : Option Bool} {ddC : Option Addr} {k0C k1C k2C k3C k5C : Option Value} {ocR : Value} {odR : Option Addr} {vsR : Array Value} {slR : Array (Option Value)}
    {f1 : Addr} {od1 an1 : Option Addr} {sl1 : Array (Option Value)} {oc1 kV1 dc1 pm1 cd1 ct1 : Value}
    {f2 : Addr} {od2 an2 : Option Addr} {sl2 : Array (Option Value)} {oc2 kV2 dc2 pm2 cd2 ct2 : Value}
    {f3 : Addr} {od3 an3 : Option Addr} {sl3 : Array (Option Value)} {oc3 kV3 dc3 pm3 cd3 ct3 : Value}
    {f4 : Addr} {od4 an4 : Option Addr} {sl4 : Array (Option Value)} {oc4 kV4 dc4 pm4 cd4 ct4 : Value}
    {f5 : Addr} {od5 an5 : Option Addr} {sl5 : Array (Option Value)} {oc5 kV5 dc5 pm5 cd5 ct5 : Value}
    {f6 : Addr} {od6 an6 : Option Addr} {sl6 : Array (Option Value)} {oc6 kV6 dc6 pm6 cd6 ct6 : Value}
    {f7 : Addr} {od7 an7 : Option Addr} {sl7 : Array (Option Value)} {oc7 kV7 dc7 pm7 cd7 ct7 : Value}
    {f8 : Addr} {od8 an8 : Option Addr} {sl8 : Array (Option Value)} {oc8 kV8 dc8 pm8 cd8 ct8 : Value}
    {f9 : Addr} {od9 an9 : Option Addr} {sl9 : Array (Option Value)} {oc9 kV9 dc9 pm9 cd9 ct9 : Value}
    {f10 : Addr} {od10 an10 : Option Addr} {sl10 : Array (Option Value)} {oc10 kV10 dc10 pm10 cd10 ct10 : Value}
    {f11 : Addr} {od11 an11 : Option Addr} {sl11 : Array (Option Value)} {oc11 kV11 dc11 pm11 cd11 ct11 : Value}
    {f12 : Addr} {od12 an12 : Option Addr} {sl12 : Array (Option Value)} {oc12 kV12 dc12 pm12 cd12 ct12 : Value}
    {f13 : Addr} {od13 an13 : Option Addr} {sl13 : Array (Option Value)} {oc13 kV13 dc13 pm13 cd13 ct13 : Value}
    {f14 : Addr} {od14 an14 : Option Addr} {sl14 : Array (Option Value)} {oc14 kV14 dc14 pm14 cd14 ct14 : Value}
    {f15 : Addr} {od15 an15 : Option Addr} {sl15 : Array (Option Value)} {oc15 kV15 dc15 pm15 cd15 ct15 : Value}
    {f16 : Addr} {od16 an16 : Option Addr} {sl16 : Array (Option Value)} {oc16 kV16 dc16 pm16 cd16 ct16 : Value}
    {f17 : Addr} {od17 an17 : Option Addr} {sl17 : Array (Option Value)} {oc17 kV17 dc17 pm17 cd17 ct17 : Value}
    {f18 : Addr} {od18 an18 : Option Addr} {sl18 : Array (Option Value)} {oc18 kV18 dc18 pm18 cd18 ct18 : Value}
    {f19 : Addr} {od19 an19 : Option Addr} {sl19 : Array (Option Value)} {oc19 kV19 dc19 pm19 cd19 ct19 : Value}
    {f20 : Addr} {od20 an20 : Option Addr} {sl20 : Array (Option Value)} {oc20 kV20 dc20 pm20 cd20 ct20 : Value}
    {f21 : Addr} {od21 an21 : Option Addr} {sl21 : Array (Option Value)} {oc21 kV21 dc21 pm21 cd21 ct21 : Value}
    {f22 : Addr} {od22 an22 : Option Addr} {sl22 : Array (Option Value)} {oc22 kV22 dc22 pm22 cd22 ct22 : Value}
    {f23 : Addr} {od23 an23 : Option Addr} {sl23 : Array (Option Value)} {oc23 kV23 dc23 pm23 cd23 ct23 : Value}
    {f24 : Addr} {od24 an24 : Option Addr} {sl24 : Array (Option Value)} {oc24 kV24 dc24 pm24 cd24 ct24 : Value}
    {f25 : Addr} {od25 an25 : Option Addr} {sl25 : Array (Option Value)} {oc25 kV25 dc25 pm25 cd25 ct25 : Value}
    {f26 : Addr} {od26 an26 : Option Addr} {sl26 : Array (Option Value)} {oc26 kV26 dc26 pm26 cd26 ct26 : Value}
    {f27 : Addr} {od27 an27 : Option Addr} {sl27 : Array (Option Value)} {oc27 kV27 dc27 pm27 cd27 ct27 : Value}
    {f28 : Addr} {od28 an28 : Option Addr} {sl28 : Array (Option Value)} {oc28 kV28 dc28 pm28 cd28 ct28 : Value}
    {f29 : Addr} {od29 an29 : Option Addr} {sl29 : Array (Option Value)} {oc29 kV29 dc29 pm29 cd29 ct29 : Value}
    {f30 : Addr} {od30 an30 : Option Addr} {sl30 : Array (Option Value)} {oc30 kV30 dc30 pm30 cd30 ct30 : Value}
    {f31 : Addr} {od31 an31 : Option Addr} {sl31 : Array (Option Value)} {oc31 kV31 dc31 pm31 cd31 ct31 : Value}
    {f32 : Addr} {od32 an32 : Option Addr} {sl32 : Array (Option Value)} {oc32 kV32 dc32 pm32 cd32 ct32 : Value}
    {f33 : Addr} {od33 an33 : Option Addr} {sl33 : Array (Option Value)} {oc33 kV33 dc33 pm33 cd33 ct33 : Value}
    {f34 : Addr} {od34 an34 : Option Addr} {sl34 : Array (Option Value)} {oc34 kV34 dc34 pm34 cd34 ct34 : Value}
    {f35 : Addr} {od35 an35 : Option Addr} {sl35 : Array (Option Value)} {oc35 kV35 dc35 pm35 cd35 ct35 : Value}
    {f36 : Addr} {od36 an36 : Option Addr} {sl36 : Array (Option Value)} {oc36 kV36 dc36 pm36 ct36 : Value}
    {f37 : Addr} {od37 an37 : Option Addr} {sl37 : Array (Option Value)} {oc37 kV37 dc37 pm37 cd37 ct37 : Value}
    {f38 : Addr} {od38 an38 : Option Addr} {sl38 : Array (Option Value)} {oc38 kV38 dc38 pm38 cd38 ct38 : Value}
    {aS : Addr} {nnSIGNS : Nat} {ddSIGNS : Option Addr} {ssSIGNS : Array (Option Value)} {tSIGNS0 tSIGNS1 : Tok}
    {aO1 : Addr} {nnOF_ONE : Nat} {ddOF_ONE : Option Addr} {ssOF_ONE : Array (Option Value)} {tOF_ONE0 tOF_ONE1 tOF_ONE2 tOF_ONE3 tOF_ONE4 : Tok}
    {aO2 : Addr} {nnOF_TWO : Nat} {ddOF_TWO : Option Addr} {ssOF_TWO : Array (Option Value)} {tOF_TWO0 tOF_TWO1 : Tok}
    {tIN : Tok}
    {tLATE : Tok}
    {tBY : Tok}
    {tKEEP : Tok}
    {tTHEN : Tok}
    {tMOST_NODES : Tok}
    {tMOST_SIGNS : Tok}
    {tMOST_STREAM : Tok}
    (gL : PySem.W.nsIn K mainGlobals "LimitError" = some (some (.ref CL)))
    (gC : PySem.W.nsIn K mainGlobals "TooMany" = some (some (.ref CT)))
    (a1 : PySem.W.nsIn K mainGlobals "is_sign" = some (some (.ref f1)))
    (l1 : K.lookup f1 = some ⟨oc1, od1, .func (PySem.W.fnOf "is_sign" "is_sign" (defArgs s_is_sign) (defBody s_is_sign) (defScope s_is_sign) .none kV1 dc1 pm1 an1 cd1 ct1), sl1⟩) (c1 : PySem.W.codeIn K cd1 "is_sign" = true) (k1 : PySem.W.keepIn K (.ref f1) = true)
    (a2 : PySem.W.nsIn K mainGlobals "is_text" = some (some (.ref f2)))
    (l2 : K.lookup f2 = some ⟨oc2, od2, .func (PySem.W.fnOf "is_text" "is_text" (defArgs s_is_text) (defBody s_is_text) (defScope s_is_text) .none kV2 dc2 pm2 an2 cd2 ct2), sl2⟩) (c2 : PySem.W.codeIn K cd2 "is_text" = true) (k2 : PySem.W.keepIn K (.ref f2) = true)
    (a3 : PySem.W.nsIn K mainGlobals "is_text_of" = some (some (.ref f3)))
    (l3 : K.lookup f3 = some ⟨oc3, od3, .func (PySem.W.fnOf "is_text_of" "is_text_of" (defArgs s_is_text_of) (defBody s_is_text_of) (defScope s_is_text_of) .none kV3 dc3 pm3 an3 cd3 ct3), sl3⟩) (c3 : PySem.W.codeIn K cd3 "is_text_of" = true) (k3 : PySem.W.keepIn K (.ref f3) = true)
    (a4 : PySem.W.nsIn K mainGlobals "want_stream" = some (some (.ref f4)))
    (l4 : K.lookup f4 = some ⟨oc4, od4, .func (PySem.W.fnOf "want_stream" "want_stream" (defArgs s_want_stream) (defBody s_want_stream) (defScope s_want_stream) .none kV4 dc4 pm4 an4 cd4 ct4), sl4⟩) (c4 : PySem.W.codeIn K cd4 "want_stream" = true) (k4 : PySem.W.keepIn K (.ref f4) = true)
    (a5 : PySem.W.nsIn K mainGlobals "parts_of" = some (some (.ref f5)))
    (l5 : K.lookup f5 = some ⟨oc5, od5, .func (PySem.W.fnOf "parts_of" "parts_of" (defArgs s_parts_of) (defBody s_parts_of) (defScope s_parts_of) .none kV5 dc5 pm5 an5 cd5 ct5), sl5⟩) (c5 : PySem.W.codeIn K cd5 "parts_of" = true) (k5 : PySem.W.keepIn K (.ref f5) = true)
    (a6 : PySem.W.nsIn K mainGlobals "with_parts" = some (some (.ref f6)))
    (l6 : K.lookup f6 = some ⟨oc6, od6, .func (PySem.W.fnOf "with_parts" "with_parts" (defArgs s_with_parts) (defBody s_with_parts) (defScope s_with_parts) .none kV6 dc6 pm6 an6 cd6 ct6), sl6⟩) (c6 : PySem.W.codeIn K cd6 "with_parts" = true) (k6 : PySem.W.keepIn K (.ref f6) = true)
    (a7 : PySem.W.nsIn K mainGlobals "has_shape" = some (some (.ref f7)))
    (l7 : K.lookup f7 = some ⟨oc7, od7, .func (PySem.W.fnOf "has_shape" "has_shape" (defArgs s_has_shape) (defBody s_has_shape) (defScope s_has_shape) .none kV7 dc7 pm7 an7 cd7 ct7), sl7⟩) (c7 : PySem.W.codeIn K cd7 "has_shape" = true) (k7 : PySem.W.keepIn K (.ref f7) = true)
    (a8 : PySem.W.nsIn K mainGlobals "is_term" = some (some (.ref f8)))
    (l8 : K.lookup f8 = some ⟨oc8, od8, .func (PySem.W.fnOf "is_term" "is_term" (defArgs s_is_term) (defBody s_is_term) (defScope s_is_term) .none kV8 dc8 pm8 an8 cd8 ct8), sl8⟩) (c8 : PySem.W.codeIn K cd8 "is_term" = true) (k8 : PySem.W.keepIn K (.ref f8) = true)
    (a9 : PySem.W.nsIn K mainGlobals "want_term" = some (some (.ref f9)))
    (l9 : K.lookup f9 = some ⟨oc9, od9, .func (PySem.W.fnOf "want_term" "want_term" (defArgs s_want_term) (defBody s_want_term) (defScope s_want_term) .none kV9 dc9 pm9 an9 cd9 ct9), sl9⟩) (c9 : PySem.W.codeIn K cd9 "want_term" = true) (k9 : PySem.W.keepIn K (.ref f9) = true)
    (a10 : PySem.W.nsIn K mainGlobals "nodes_of" = some (some (.ref f10)))
    (l10 : K.lookup f10 = some ⟨oc10, od10, .func (PySem.W.fnOf "nodes_of" "nodes_of" (defArgs s_nodes_of) (defBody s_nodes_of) (defScope s_nodes_of) .none kV10 dc10 pm10 an10 cd10 ct10), sl10⟩) (c10 : PySem.W.codeIn K cd10 "nodes_of" = true) (k10 : PySem.W.keepIn K (.ref f10) = true)
    (a11 : PySem.W.nsIn K mainGlobals "half_of" = some (some (.ref f11)))
    (l11 : K.lookup f11 = some ⟨oc11, od11, .func (PySem.W.fnOf "half_of" "half_of" (defArgs s_half_of) (defBody s_half_of) (defScope s_half_of) .none kV11 dc11 pm11 an11 cd11 ct11), sl11⟩) (c11 : PySem.W.codeIn K cd11 "half_of" = true) (k11 : PySem.W.keepIn K (.ref f11) = true)
    (a12 : PySem.W.nsIn K mainGlobals "changes_of" = some (some (.ref f12)))
    (l12 : K.lookup f12 = some ⟨oc12, od12, .func (PySem.W.fnOf "changes_of" "changes_of" (defArgs s_changes_of) (defBody s_changes_of) (defScope s_changes_of) .none kV12 dc12 pm12 an12 cd12 ct12), sl12⟩) (c12 : PySem.W.codeIn K cd12 "changes_of" = true) (k12 : PySem.W.keepIn K (.ref f12) = true)
    (a13 : PySem.W.nsIn K mainGlobals "counts_of" = some (some (.ref f13)))
    (l13 : K.lookup f13 = some ⟨oc13, od13, .func (PySem.W.fnOf "counts_of" "counts_of" (defArgs s_counts_of) (defBody s_counts_of) (defScope s_counts_of) .none kV13 dc13 pm13 an13 cd13 ct13), sl13⟩) (c13 : PySem.W.codeIn K cd13 "counts_of" = true) (k13 : PySem.W.keepIn K (.ref f13) = true)
    (a14 : PySem.W.nsIn K mainGlobals "turned" = some (some (.ref f14)))
    (l14 : K.lookup f14 = some ⟨oc14, od14, .func (PySem.W.fnOf "turned" "turned" (defArgs s_turned) (defBody s_turned) (defScope s_turned) .none kV14 dc14 pm14 an14 cd14 ct14), sl14⟩) (c14 : PySem.W.codeIn K cd14 "turned" = true) (k14 : PySem.W.keepIn K (.ref f14) = true)
    (a15 : PySem.W.nsIn K mainGlobals "of_one" = some (some (.ref f15)))
    (l15 : K.lookup f15 = some ⟨oc15, od15, .func (PySem.W.fnOf "of_one" "of_one" (defArgs s_of_one) (defBody s_of_one) (defScope s_of_one) .none kV15 dc15 pm15 an15 cd15 ct15), sl15⟩) (c15 : PySem.W.codeIn K cd15 "of_one" = true) (k15 : PySem.W.keepIn K (.ref f15) = true)
    (a16 : PySem.W.nsIn K mainGlobals "of_two" = some (some (.ref f16)))
    (l16 : K.lookup f16 = some ⟨oc16, od16, .func (PySem.W.fnOf "of_two" "of_two" (defArgs s_of_two) (defBody s_of_two) (defScope s_of_two) .none kV16 dc16 pm16 an16 cd16 ct16), sl16⟩) (c16 : PySem.W.codeIn K cd16 "of_two" = true) (k16 : PySem.W.keepIn K (.ref f16) = true)
    (a17 : PySem.W.nsIn K mainGlobals "flow_by" = some (some (.ref f17)))
    (l17 : K.lookup f17 = some ⟨oc17, od17, .func (PySem.W.fnOf "flow_by" "flow_by" (defArgs s_flow_by) (defBody s_flow_by) (defScope s_flow_by) .none kV17 dc17 pm17 an17 cd17 ct17), sl17⟩) (c17 : PySem.W.codeIn K cd17 "flow_by" = true) (k17 : PySem.W.keepIn K (.ref f17) = true)
    (a18 : PySem.W.nsIn K mainGlobals "flow_of" = some (some (.ref f18)))
    (l18 : K.lookup f18 = some ⟨oc18, od18, .func (PySem.W.fnOf "flow_of" "flow_of" (defArgs s_flow_of) (defBody s_flow_of) (defScope s_flow_of) .none kV18 dc18 pm18 an18 cd18 ct18), sl18⟩) (c18 : PySem.W.codeIn K cd18 "flow_of" = true) (k18 : PySem.W.keepIn K (.ref f18) = true)
    (a19 : PySem.W.nsIn K mainGlobals "put_by" = some (some (.ref f19)))
    (l19 : K.lookup f19 = some ⟨oc19, od19, .func (PySem.W.fnOf "put_by" "put_by" (defArgs s_put_by) (defBody s_put_by) (defScope s_put_by) .none kV19 dc19 pm19 an19 cd19 ct19), sl19⟩) (c19 : PySem.W.codeIn K cd19 "put_by" = true) (k19 : PySem.W.keepIn K (.ref f19) = true)
    (a20 : PySem.W.nsIn K mainGlobals "within_limit" = some (some (.ref f20)))
    (l20 : K.lookup f20 = some ⟨oc20, od20, .func (PySem.W.fnOf "within_limit" "within_limit" (defArgs s_within_limit) (defBody s_within_limit) (defScope s_within_limit) .none kV20 dc20 pm20 an20 cd20 ct20), sl20⟩) (c20 : PySem.W.codeIn K cd20 "within_limit" = true) (k20 : PySem.W.keepIn K (.ref f20) = true)
    (a21 : PySem.W.nsIn K mainGlobals "put_in" = some (some (.ref f21)))
    (l21 : K.lookup f21 = some ⟨oc21, od21, .func (PySem.W.fnOf "put_in" "put_in" (defArgs s_put_in) (defBody s_put_in) (defScope s_put_in) .none kV21 dc21 pm21 an21 cd21 ct21), sl21⟩) (c21 : PySem.W.codeIn K cd21 "put_in" = true) (k21 : PySem.W.keepIn K (.ref f21) = true)
    (a22 : PySem.W.nsIn K mainGlobals "plain_by" = some (some (.ref f22)))
    (l22 : K.lookup f22 = some ⟨oc22, od22, .func (PySem.W.fnOf "plain_by" "plain_by" (defArgs s_plain_by) (defBody s_plain_by) (defScope s_plain_by) .none kV22 dc22 pm22 an22 cd22 ct22), sl22⟩) (c22 : PySem.W.codeIn K cd22 "plain_by" = true) (k22 : PySem.W.keepIn K (.ref f22) = true)
    (a23 : PySem.W.nsIn K mainGlobals "plain" = some (some (.ref f23)))
    (l23 : K.lookup f23 = some ⟨oc23, od23, .func (PySem.W.fnOf "plain" "plain" (defArgs s_plain) (defBody s_plain) (defScope s_plain) .none kV23 dc23 pm23 an23 cd23 ct23), sl23⟩) (c23 : PySem.W.codeIn K cd23 "plain" = true) (k23 : PySem.W.keepIn K (.ref f23) = true)
    (a24 : PySem.W.nsIn K mainGlobals "_law_pot" = some (some (.ref f24)))
    (l24 : K.lookup f24 = some ⟨oc24, od24, .func (PySem.W.fnOf "_law_pot" "_law_pot" (defArgs s_law_pot) (defBody s_law_pot) (defScope s_law_pot) .none kV24 dc24 pm24 an24 cd24 ct24), sl24⟩) (c24 : PySem.W.codeIn K cd24 "_law_pot" = true) (k24 : PySem.W.keepIn K (.ref f24) = true)
    (a25 : PySem.W.nsIn K mainGlobals "_law_draw" = some (some (.ref f25)))
    (l25 : K.lookup f25 = some ⟨oc25, od25, .func (PySem.W.fnOf "_law_draw" "_law_draw" (defArgs s_law_draw) (defBody s_law_draw) (defScope s_law_draw) .none kV25 dc25 pm25 an25 cd25 ct25), sl25⟩) (c25 : PySem.W.codeIn K cd25 "_law_draw" = true) (k25 : PySem.W.keepIn K (.ref f25) = true)
    (a26 : PySem.W.nsIn K mainGlobals "_law_pick" = some (some (.ref f26)))
    (l26 : K.lookup f26 = some ⟨oc26, od26, .func (PySem.W.fnOf "_law_pick" "_law_pick" (defArgs s_law_pick) (defBody s_law_pick) (defScope s_law_pick) .none kV26 dc26 pm26 an26 cd26 ct26), sl26⟩) (c26 : PySem.W.codeIn K cd26 "_law_pick" = true) (k26 : PySem.W.keepIn K (.ref f26) = true)
    (a27 : PySem.W.nsIn K mainGlobals "_law_term" = some (some (.ref f27)))
    (l27 : K.lookup f27 = some ⟨oc27, od27, .func (PySem.W.fnOf "_law_term" "_law_term" (defArgs s_law_term) (defBody s_law_term) (defScope s_law_term) .none kV27 dc27 pm27 an27 cd27 ct27), sl27⟩) (c27 : PySem.W.codeIn K cd27 "_law_term" = true) (k27 : PySem.W.keepIn K (.ref f27) = true)
    (a28 : PySem.W.nsIn K mainGlobals "_law_single" = some (some (.ref f28)))
    (l28 : K.lookup f28 = some ⟨oc28, od28, .func (PySem.W.fnOf "_law_single" "_law_single" (defArgs s_law_single) (defBody s_law_single) (defScope s_law_single) .none kV28 dc28 pm28 an28 cd28 ct28), sl28⟩) (c28 : PySem.W.codeIn K cd28 "_law_single" = true) (k28 : PySem.W.keepIn K (.ref f28) = true)
    (a29 : PySem.W.nsIn K mainGlobals "_law_flow" = some (some (.ref f29)))
    (l29 : K.lookup f29 = some ⟨oc29, od29, .func (PySem.W.fnOf "_law_flow" "_law_flow" (defArgs s_law_flow) (defBody s_law_flow) (defScope s_law_flow) .none kV29 dc29 pm29 an29 cd29 ct29), sl29⟩) (c29 : PySem.W.codeIn K cd29 "_law_flow" = true) (k29 : PySem.W.keepIn K (.ref f29) = true)
    (a30 : PySem.W.nsIn K mainGlobals "_law_stream" = some (some (.ref f30)))
    (l30 : K.lookup f30 = some ⟨oc30, od30, .func (PySem.W.fnOf "_law_stream" "_law_stream" (defArgs s_law_stream) (defBody s_law_stream) (defScope s_law_stream) .none kV30 dc30 pm30 an30 cd30 ct30), sl30⟩) (c30 : PySem.W.codeIn K cd30 "_law_stream" = true) (k30 : PySem.W.keepIn K (.ref f30) = true)
    (a31 : PySem.W.nsIn K mainGlobals "_law_nodes" = some (some (.ref f31)))
    (l31 : K.lookup f31 = some ⟨oc31, od31, .func (PySem.W.fnOf "_law_nodes" "_law_nodes" (defArgs s_law_nodes) (defBody s_law_nodes) (defScope s_law_nodes) .none kV31 dc31 pm31 an31 cd31 ct31), sl31⟩) (c31 : PySem.W.codeIn K cd31 "_law_nodes" = true) (k31 : PySem.W.keepIn K (.ref f31) = true)
    (a32 : PySem.W.nsIn K mainGlobals "_law_put_in" = some (some (.ref f32)))
    (l32 : K.lookup f32 = some ⟨oc32, od32, .func (PySem.W.fnOf "_law_put_in" "_law_put_in" (defArgs s_law_put_in) (defBody s_law_put_in) (defScope s_law_put_in) .none kV32 dc32 pm32 an32 cd32 ct32), sl32⟩) (c32 : PySem.W.codeIn K cd32 "_law_put_in" = true) (k32 : PySem.W.keepIn K (.ref f32) = true)
    (a33 : PySem.W.nsIn K mainGlobals "_law_plain" = some (some (.ref f33)))
    (l33 : K.lookup f33 = some ⟨oc33, od33, .func (PySem.W.fnOf "_law_plain" "_law_plain" (defArgs s_law_plain) (defBody s_law_plain) (defScope s_law_plain) .none kV33 dc33 pm33 an33 cd33 ct33), sl33⟩) (c33 : PySem.W.codeIn K cd33 "_law_plain" = true) (k33 : PySem.W.keepIn K (.ref f33) = true)
    (a34 : PySem.W.nsIn K mainGlobals "_law_heard" = some (some (.ref f34)))
    (l34 : K.lookup f34 = some ⟨oc34, od34, .func (PySem.W.fnOf "_law_heard" "_law_heard" (defArgs s_law_heard) (defBody s_law_heard) (defScope s_law_heard) .none kV34 dc34 pm34 an34 cd34 ct34), sl34⟩) (c34 : PySem.W.codeIn K cd34 "_law_heard" = true) (k34 : PySem.W.keepIn K (.ref f34) = true)
    (a35 : PySem.W.nsIn K mainGlobals "_law_due" = some (some (.ref f35)))
    (l35 : K.lookup f35 = some ⟨oc35, od35, .func (PySem.W.fnOf "_law_due" "_law_due" (defArgs s_law_due) (defBody s_law_due) (defScope s_law_due) .none kV35 dc35 pm35 an35 cd35 ct35), sl35⟩) (c35 : PySem.W.codeIn K cd35 "_law_due" = true) (k35 : PySem.W.keepIn K (.ref f35) = true)
    (a36 : PySem.W.nsIn K mainGlobals "_law_right" = some (some (.ref f36)))
    (l36 : K.lookup f36 = some ⟨oc36, od36, .func (PySem.W.fnOf "_law_right" "_law_right" (defArgs s_law_right) (defBody s_law_right) (defScope s_law_right) .none kV36 dc36 pm36 an36 (.ref cR) ct36), sl36⟩) (c36 : PySem.W.codeIn K (.ref cR) "_law_right" = true) (k36 : PySem.W.keepIn K (.ref f36) = true)
    (a37 : PySem.W.nsIn K mainGlobals "law" = some (some (.ref f37)))
    (l37 : K.lookup f37 = some ⟨oc37, od37, .func (PySem.W.fnOf "law" "law" (defArgs s_law) (defBody s_law) (defScope s_law) .none kV37 dc37 pm37 an37 cd37 ct37), sl37⟩) (c37 : PySem.W.codeIn K cd37 "law" = true) (k37 : PySem.W.keepIn K (.ref f37) = true)
    (a38 : PySem.W.findIn K (.ref CT) "__init__" = some (some (.ref f38)))
    (l38 : K.lookup f38 = some ⟨oc38, od38, .func (PySem.W.fnOf "__init__" "TooMany.__init__" (defArgs s_TooMany___init__) (defBody s_TooMany___init__) (defScope s_TooMany___init__) .none kV38 dc38 pm38 an38 cd38 ct38), sl38⟩) (c38 : PySem.W.codeIn K cd38 "TooMany.__init__" = true) (k38 : PySem.W.keepIn K (.ref f38) = true)
    (z_len : PySem.W.nsIn K mainGlobals "len" = some none)
    (z_isinstance : PySem.W.nsIn K mainGlobals "isinstance" = some none)
    (z_all : PySem.W.nsIn K mainGlobals "all" = some none)
    (z_sum : PySem.W.nsIn K mainGlobals "sum" = some none)
    (z_abs : PySem.W.nsIn K mainGlobals "abs" = some none)
    (z_max : PySem.W.nsIn K mainGlobals "max" = some none)
    (z_min : PySem.W.nsIn K mainGlobals "min" = some none)
    (z_divmod : PySem.W.nsIn K mainGlobals "divmod" = some none)
    (z_repr : PySem.W.nsIn K mainGlobals "repr" = some none)
    (z_int : PySem.W.nsIn K mainGlobals "int" = some none)
    (z_str : PySem.W.nsIn K mainGlobals "str" = some none)
    (z_tuple : PySem.W.nsIn K mainGlobals "tuple" = some none)
    (z_list : PySem.W.nsIn K mainGlobals "list" = some none)
    (z_zip : PySem.W.nsIn K mainGlobals "zip" = some none)
    (z_range : PySem.W.nsIn K mainGlobals "range" = some none)
    (g_SIGNS : PySem.W.nsIn K mainGlobals "SIGNS" = some (some (.ref aS))) (h_SIGNS : K.lookup aS = some ⟨.type "tuple", ddSIGNS, .seq #[.str "0" tSIGNS0, .str "1" tSIGNS1] nnSIGNS, ssSIGNS⟩)
    (g_OF_ONE : PySem.W.nsIn K mainGlobals "OF_ONE" = some (some (.ref aO1))) (h_OF_ONE : K.lookup aO1 = some ⟨.type "tuple", ddOF_ONE, .seq #[.str "not" tOF_ONE0, .str "twice" tOF_ONE1, .str "half" tOF_ONE2, .str "change" tOF_ONE3, .str "count" tOF_ONE4] nnOF_ONE, ssOF_ONE⟩)
    (g_OF_TWO : PySem.W.nsIn K mainGlobals "OF_TWO" = some (some (.ref aO2))) (h_OF_TWO : K.lookup aO2 = some ⟨.type "tuple", ddOF_TWO, .seq #[.str "keep" tOF_TWO0, .str "then" tOF_TWO1] nnOF_TWO, ssOF_TWO⟩)
    (g_IN : PySem.W.nsIn K mainGlobals "IN" = some (some (.str "in" tIN)))
    (g_LATE : PySem.W.nsIn K mainGlobals "LATE" = some (some (.str "late" tLATE)))
    (g_BY : PySem.W.nsIn K mainGlobals "BY" = some (some (.str "by" tBY)))
    (g_KEEP : PySem.W.nsIn K mainGlobals "KEEP" = some (some (.str "keep" tKEEP)))
    (g_THEN : PySem.W.nsIn K mainGlobals "THEN" = some (some (.str "then" tTHEN)))
    (g_MOST_NODES : PySem.W.nsIn K mainGlobals "MOST_NODES" = some (some (.int 9 tMOST_NODES)))
    (g_MOST_SIGNS : PySem.W.nsIn K mainGlobals "MOST_SIGNS" = some (some (.int 8000 tMOST_SIGNS)))
    (g_MOST_STREAM : PySem.W.nsIn K mainGlobals "MOST_STREAM" = some (some (.int 1000 tMOST_STREAM)))
    (rd : PySem.W.readsIn K CL (.type "type") = true)
    (ga : PySem.W.specialIn K (.ref CL) "__getattribute__" = some (some (.builtin "type.__getattribute__")))
    (vV : PySem.W.findCls K (.ref CL) (.type "type") "__init__" = some (.val (.builtin "ArithmeticError.__init__")))
    (xi : K.lookup CT = some (excClassObj nmC qC CT NC bsC bmC true snC subC abC colC ddC k0C k1C k2C k3C k5C "ArithmeticError.__new__"))
    (xt : PySem.W.excTail aeT bmC = true)
    (hd : PySem.W.hasDictIn K CT = true)
    (sa : PySem.W.findIn K (.ref CT) "__setattr__" = some (some (.builtin "object.__setattr__")))
    (sb : PySem.W.subIn K (.ref CT) (.type "BaseException") = some true)
    (tyC : PySem.W.typeIn K (.ref CT) = some (.type "type"))
    (kC : PySem.W.keepIn K (.ref CT) = true)
    (tI : PySem.W.typeIn K (.ref f38) = some (.type "function"))
    (noW : PySem.W.findIn K (.ref CT) "what" = some none)
    (noL : PySem.W.findIn K (.ref CT) "limit" = some none)
    (xga : PySem.W.findIn K (.ref CT) "__getattribute__" = some (some (.builtin "BaseException.__getattribute__")))
    (xgg : PySem.W.findIn K (.ref CT) "__getattr__" = some none)
    (te : PySem.W.subIn K (.ref CT) (.ref CT) = some true)
    (lR : K.lookup cR = some ⟨ocR, odR, .fields vsR, slR⟩)
    (tb : vsR[11]? = some (.ref Pt))
    (nT : K.lookup Pt = none) :
    LamX.LawAtS l w K CX0 57 nmost "_law_script" mg fa h := by
  have G := Tp.g
  have e := hfa.symm.trans (PySem.W.mg_of X G a37)
  cases e
  have F1 := fun_mk (st := s_is_sign) l1 c1 k1
  have b1 := F1.binds (ps := ["value"]) fun _ _ _ _ _ _ us hl => match us, hl with | [_], _ => rfl
  have m1 := PySem.W.mg_of X G a1
  have F2 := fun_mk (st := s_is_text) l2 c2 k2
  have b2 := F2.binds (ps := ["value"]) fun _ _ _ _ _ _ us hl => match us, hl with | [_], _ => rfl
  have m2 := PySem.W.mg_of X G a2
  have F3 := fun_mk (st := s_is_text_of) l3 c3 k3
  have b3 := F3.binds (ps := ["value", "most"]) fun _ _ _ _ _ _ us hl => match us, hl with | [_, _], _ => rfl
  have m3 := PySem.W.mg_of X G a3
  have F4 := fun_mk (st := s_want_stream) l4 c4 k4
  have b4 := F4.binds (ps := ["stream"]) fun _ _ _ _ _ _ us hl => match us, hl with | [_], _ => rfl
  have m4 := PySem.W.mg_of X G a4
  have F5 := fun_mk (st := s_parts_of) l5 c5 k5
  have b5 := F5.binds (ps := ["term"]) fun _ _ _ _ _ _ us hl => match us, hl with | [_], _ => rfl
  have m5 := PySem.W.mg_of X G a5
  have F6 := fun_mk (st := s_with_parts) l6 c6 k6
  have b6 := F6.binds (ps := ["term", "parts"]) fun _ _ _ _ _ _ us hl => match us, hl with | [_, _], _ => rfl
  have m6 := PySem.W.mg_of X G a6
  have F7 := fun_mk (st := s_has_shape) l7 c7 k7
  have b7 := F7.binds (ps := ["value"]) fun _ _ _ _ _ _ us hl => match us, hl with | [_], _ => rfl
  have m7 := PySem.W.mg_of X G a7
  have F8 := fun_mk (st := s_is_term) l8 c8 k8
  have b8 := F8.binds (ps := ["value"]) fun _ _ _ _ _ _ us hl => match us, hl with | [_], _ => rfl
  have m8 := PySem.W.mg_of X G a8
  have F9 := fun_mk (st := s_want_term) l9 c9 k9
  have b9 := F9.binds (ps := ["value"]) fun _ _ _ _ _ _ us hl => match us, hl with | [_], _ => rfl
  have m9 := PySem.W.mg_of X G a9
  have F10 := fun_mk (st := s_nodes_of) l10 c10 k10
  have b10 := F10.binds (ps := ["term"]) fun _ _ _ _ _ _ us hl => match us, hl with | [_], _ => rfl
  have m10 := PySem.W.mg_of X G a10
  have F11 := fun_mk (st := s_half_of) l11 c11 k11
  have b11 := F11.binds (ps := ["flow"]) fun _ _ _ _ _ _ us hl => match us, hl with | [_], _ => rfl
  have m11 := PySem.W.mg_of X G a11
  have F12 := fun_mk (st := s_changes_of) l12 c12 k12
  have b12 := F12.binds (ps := ["flow"]) fun _ _ _ _ _ _ us hl => match us, hl with | [_], _ => rfl
  have m12 := PySem.W.mg_of X G a12
  have F13 := fun_mk (st := s_counts_of) l13 c13 k13
  have b13 := F13.binds (ps := ["flow"]) fun _ _ _ _ _ _ us hl => match us, hl with | [_], _ => rfl
  have m13 := PySem.W.mg_of X G a13
  have F14 := fun_mk (st := s_turned) l14 c14 k14
  have b14 := F14.binds (ps := ["sign"]) fun _ _ _ _ _ _ us hl => match us, hl with | [_], _ => rfl
  have m14 := PySem.W.mg_of X G a14
  have F15 := fun_mk (st := s_of_one) l15 c15 k15
  have b15 := F15.binds (ps := ["term", "flow"]) fun _ _ _ _ _ _ us hl => match us, hl with | [_, _], _ => rfl
  have m15 := PySem.W.mg_of X G a15
  have F16 := fun_mk (st := s_of_two) l16 c16 k16
  have b16 := F16.binds (ps := ["term", "one", "other"]) fun _ _ _ _ _ _ us hl => match us, hl with | [_, _, _], _ => rfl
  have m16 := PySem.W.mg_of X G a16
  have F17 := fun_mk (st := s_flow_by) l17 c17 k17
  have b17 := F17.binds (ps := ["term", "stream"]) fun _ _ _ _ _ _ us hl => match us, hl with | [_, _], _ => rfl
  have m17 := PySem.W.mg_of X G a17
  have F18 := fun_mk (st := s_flow_of) l18 c18 k18
  have b18 := F18.binds (ps := ["term", "stream"]) fun _ _ _ _ _ _ us hl => match us, hl with | [_, _], _ => rfl
  have m18 := PySem.W.mg_of X G a18
  have F19 := fun_mk (st := s_put_by) l19 c19 k19
  have b19 := F19.binds (ps := ["term", "other"]) fun _ _ _ _ _ _ us hl => match us, hl with | [_, _], _ => rfl
  have m19 := PySem.W.mg_of X G a19
  have F20 := fun_mk (st := s_within_limit) l20 c20 k20
  have b20 := F20.binds (ps := ["term"]) fun _ _ _ _ _ _ us hl => match us, hl with | [_], _ => rfl
  have m20 := PySem.W.mg_of X G a20
  have F21 := fun_mk (st := s_put_in) l21 c21 k21
  have b21 := F21.binds (ps := ["term", "other"]) fun _ _ _ _ _ _ us hl => match us, hl with | [_, _], _ => rfl
  have m21 := PySem.W.mg_of X G a21
  have F22 := fun_mk (st := s_plain_by) l22 c22 k22
  have b22 := F22.binds (ps := ["term"]) fun _ _ _ _ _ _ us hl => match us, hl with | [_], _ => rfl
  have m22 := PySem.W.mg_of X G a22
  have F23 := fun_mk (st := s_plain) l23 c23 k23
  have b23 := F23.binds (ps := ["term"]) fun _ _ _ _ _ _ us hl => match us, hl with | [_], _ => rfl
  have m23 := PySem.W.mg_of X G a23
  have F24 := fun_mk (st := s_law_pot) l24 c24 k24
  have b24 := F24.binds (ps := ["_law_script", "_law_k"]) fun _ _ _ _ _ _ us hl => match us, hl with | [_, _], _ => rfl
  have m24 := PySem.W.mg_of X G a24
  have F25 := fun_mk (st := s_law_draw) l25 c25 k25
  have b25 := F25.binds (ps := ["_law_pot_here", "_law_size"]) fun _ _ _ _ _ _ us hl => match us, hl with | [_, _], _ => rfl
  have m25 := PySem.W.mg_of X G a25
  have F26 := fun_mk (st := s_law_pick) l26 c26 k26
  have b26 := F26.binds (ps := ["_law_pot_here", "_law_some"]) fun _ _ _ _ _ _ us hl => match us, hl with | [_, _], _ => rfl
  have m26 := PySem.W.mg_of X G a26
  have F27 := fun_mk (st := s_law_term) l27 c27 k27
  have b27 := F27.binds (ps := ["_law_pot_here", "_law_most"]) fun _ _ _ _ _ _ us hl => match us, hl with | [_, _], _ => rfl
  have m27 := PySem.W.mg_of X G a27
  have F28 := fun_mk (st := s_law_single) l28 c28 k28
  have b28 := F28.binds (ps := ["_law_term_here", "_law_flow_here"]) fun _ _ _ _ _ _ us hl => match us, hl with | [_, _], _ => rfl
  have m28 := PySem.W.mg_of X G a28
  have F29 := fun_mk (st := s_law_flow) l29 c29 k29
  have b29 := F29.binds (ps := ["_law_term_here", "_law_stream_here"]) fun _ _ _ _ _ _ us hl => match us, hl with | [_, _], _ => rfl
  have m29 := PySem.W.mg_of X G a29
  have F30 := fun_mk (st := s_law_stream) l30 c30 k30
  have b30 := F30.binds (ps := ["_law_pot_here", "_law_most"]) fun _ _ _ _ _ _ us hl => match us, hl with | [_, _], _ => rfl
  have m30 := PySem.W.mg_of X G a30
  have F31 := fun_mk (st := s_law_nodes) l31 c31 k31
  have b31 := F31.binds (ps := ["_law_term_here"]) fun _ _ _ _ _ _ us hl => match us, hl with | [_], _ => rfl
  have m31 := PySem.W.mg_of X G a31
  have F32 := fun_mk (st := s_law_put_in) l32 c32 k32
  have b32 := F32.binds (ps := ["_law_term_here", "_law_other"]) fun _ _ _ _ _ _ us hl => match us, hl with | [_, _], _ => rfl
  have m32 := PySem.W.mg_of X G a32
  have F33 := fun_mk (st := s_law_plain) l33 c33 k33
  have b33 := F33.binds (ps := ["_law_term_here"]) fun _ _ _ _ _ _ us hl => match us, hl with | [_], _ => rfl
  have m33 := PySem.W.mg_of X G a33
  have F34 := fun_mk (st := s_law_heard) l34 c34 k34
  have b34 := F34.binds (ps := ["_law_call"]) fun _ _ _ _ _ _ us hl => match us, hl with | [_], _ => rfl
  have m34 := PySem.W.mg_of X G a34
  have F35 := fun_mk (st := s_law_due) l35 c35 k35
  have b35 := F35.binds (ps := ["_law_term_here"]) fun _ _ _ _ _ _ us hl => match us, hl with | [_], _ => rfl
  have m35 := PySem.W.mg_of X G a35
  have F36 := fun_mk (st := s_law_right) l36 c36 k36
  have b36 := F36.binds (ps := ["_law_pot_here"]) fun _ _ _ _ _ _ us hl => match us, hl with | [_], _ => rfl
  have m36 := PySem.W.mg_of X G a36
  have F37 := fun_mk (st := s_law) l37 c37 k37
  have b37 := F37.binds (ps := ["_law_script"]) fun _ _ _ _ _ _ us hl => match us, hl with | [_], _ => rfl
  have m37 := PySem.W.mg_of X G a37
  have F38 := fun_mk (st := s_TooMany___init__) l38 c38 k38
  have b38 := F38.binds (ps := ["self", "what", "limit"]) fun _ _ _ _ _ _ us hl => match us, hl with | [_, _, _], _ => rfl
  have T : Txt K mg aS aO1 aO2 := { b_len := PySem.W.mg_none_of X G z_len, b_isinstance := PySem.W.mg_none_of X G z_isinstance, b_all := PySem.W.mg_none_of X G z_all, b_sum := PySem.W.mg_none_of X G z_sum, b_abs := PySem.W.mg_none_of X G z_abs, b_max := PySem.W.mg_none_of X G z_max, b_min := PySem.W.mg_none_of X G z_min, b_divmod := PySem.W.mg_none_of X G z_divmod, b_repr := PySem.W.mg_none_of X G z_repr, b_int := PySem.W.mg_none_of X G z_int, b_str := PySem.W.mg_none_of X G z_str, b_tuple := PySem.W.mg_none_of X G z_tuple, b_list := PySem.W.mg_none_of X G z_list, b_zip := PySem.W.mg_none_of X G z_zip, b_range := PySem.W.mg_none_of X G z_range, g_SIGNS := ⟨_, PySem.W.mg_of X G g_SIGNS, rfl⟩, k_SIGNS := fun _ => .inr ⟨_, _, _, h_SIGNS, rfl, rfl, arr5 (Nat.le_of_ble_eq_true rfl), .cons ⟨_, rfl⟩ (.cons ⟨_, rfl⟩ (.nil))⟩, g_OF_ONE := ⟨_, PySem.W.mg_of X G g_OF_ONE, rfl⟩, k_OF_ONE := fun _ => .inr ⟨_, _, _, h_OF_ONE, rfl, rfl, arr5 (Nat.le_of_ble_eq_true rfl), .cons ⟨_, rfl⟩ (.cons ⟨_, rfl⟩ (.cons ⟨_, rfl⟩ (.cons ⟨_, rfl⟩ (.cons ⟨_, rfl⟩ (.nil)))))⟩, g_OF_TWO := ⟨_, PySem.W.mg_of X G g_OF_TWO, rfl⟩, k_OF_TWO := fun _ => .inr ⟨_, _, _, h_OF_TWO, rfl, rfl, arr5 (Nat.le_of_ble_eq_true rfl), .cons ⟨_, rfl⟩ (.cons ⟨_, rfl⟩ (.nil))⟩, g_IN := ⟨_, PySem.W.mg_of X G g_IN, ⟨_, rfl⟩⟩, g_LATE := ⟨_, PySem.W.mg_of X G g_LATE, ⟨_, rfl⟩⟩, g_BY := ⟨_, PySem.W.mg_of X G g_BY, ⟨_, rfl⟩⟩, g_KEEP := ⟨_, PySem.W.mg_of X G g_KEEP, ⟨_, rfl⟩⟩, g_THEN := ⟨_, PySem.W.mg_of X G g_THEN, ⟨_, rfl⟩⟩, g_MOST_NODES := ⟨_, PySem.W.mg_of X G g_MOST_NODES, ⟨_, rfl⟩⟩, g_MOST_SIGNS := ⟨_, PySem.W.mg_of X G g_MOST_SIGNS, ⟨_, rfl⟩⟩, g_MOST_STREAM := ⟨_, PySem.W.mg_of X G g_MOST_STREAM, ⟨_, rfl⟩⟩ }
  have ox : OexA K CT := ⟨⟨_, _, _, _, _, _, _, _, _, _, _, _, _, _, _, xi, xt⟩, sa, sb, tyC, kC⟩
  have M : TMany K mg CL CT f38 (.type "type") := { gL := PySem.W.mg_of X G gL, gC := PySem.W.mg_of X G gC, rd := ⟨rd, ga⟩, vV := vV, ox := ox, iC := a38, tI := tI, noW := noW, noL := noL, xf := ⟨xga, xgg, sb, hd⟩, te := exm_self xi tyC sb te }
  obtain ⟨hCode, hTab⟩ := PySem.W.tab_of Tp X hrec (tab_mk a36 l36 rfl lR tb)
  refine ⟨PySem.W.fnOf "law" "law" (defArgs s_law) (defBody s_law) (defScope s_law) .none kV37 dc37 pm37 an37 cd37 ct37, [(cR, Pt)], spLaw K Pt, fun r hr => by rw [List.mem_singleton.mp hr]; exact hTab, fun r hr => by rw [List.mem_singleton.mp hr]; exact nT, fun r hr => by rw [List.mem_singleton.mp hr]; exact hCode, fun s v => .of_eq rfl, fun H a ns _ _ hH hS => ⟨a, ns, rfl, hS, fun r hr => by rw [List.mem_singleton.mp hr]; exact LamX.TabS.nil (hH _ (List.mem_singleton.mpr rfl)), fun _ => rfl⟩, fun base _ _ hTB => ?_⟩
  have TB := hTB (cR, Pt) (List.mem_singleton.mpr rfl)
  have c_is_sign : C8.Cal l.prog w K mg base 1 "is_sign" spIsSign [] := ⟨⟨_, _, _, [], ok_is_sign F1 T , m1, k1, b1, .nil⟩⟩
  have c_is_text : C8.Cal l.prog w K mg base 1 "is_text" spIsText [] := ⟨⟨_, _, _, [], ok_is_text F2 T , m2, k2, b2, .nil⟩⟩
  have c_is_text_of : C8.Cal l.prog w K mg base 2 "is_text_of" spIsTextOf [] := ⟨⟨_, _, _, [], ok_is_text_of F3 T c_is_text, m3, k3, b3, .nil⟩⟩
  have c_want_stream : C8.Cal l.prog w K mg base 3 "want_stream" spWantStream [] := ⟨⟨_, _, _, [], ok_want_stream F4 T c_is_text_of, m4, k4, b4, .nil⟩⟩
  have c_parts_of : C8.Cal l.prog w K mg base 1 "parts_of" spPartsOf [] := ⟨⟨_, _, _, [], ok_parts_of F5 T , m5, k5, b5, .nil⟩⟩
  have c_with_parts : C8.Cal l.prog w K mg base 1 "with_parts" spWithParts [] := ⟨⟨_, _, _, [], ok_with_parts F6 T , m6, k6, b6, .nil⟩⟩
  have c_has_shape : C8.Cal l.prog w K mg base 2 "has_shape" spHasShape [] := ⟨⟨_, _, _, [], ok_has_shape F7 T c_is_sign c_is_text, m7, k7, b7, .nil⟩⟩
  have c_is_term : C8.Cal l.prog w K mg base 3 "is_term" spIsTerm [] := ⟨⟨_, _, _, [], ok_is_term F8 T c_has_shape c_parts_of, m8, k8, b8, .nil⟩⟩
  have c_want_term : C8.Cal l.prog w K mg base 4 "want_term" spWantTerm [] := ⟨⟨_, _, _, [], ok_want_term F9 T c_is_term, m9, k9, b9, .nil⟩⟩
  have c_nodes_of : C8.Cal l.prog w K mg base 51 "nodes_of" (spNodes 50) [] := ok_nodes_of F10 T m10 k10 b10 c_parts_of 50
  have c_half_of : C8.Cal l.prog w K mg base 1 "half_of" spHalf [] := ⟨⟨_, _, _, [], ok_half_of F11 T , m11, k11, b11, .nil⟩⟩
  have c_changes_of : C8.Cal l.prog w K mg base 1 "changes_of" spChanges [] := ⟨⟨_, _, _, [], ok_changes_of F12 T , m12, k12, b12, .nil⟩⟩
  have c_counts_of : C8.Cal l.prog w K mg base 1 "counts_of" spCounts [] := ⟨⟨_, _, _, [], ok_counts_of F13 T , m13, k13, b13, .nil⟩⟩
  have c_turned : C8.Cal l.prog w K mg base 1 "turned" spTurned [] := ⟨⟨_, _, _, [], ok_turned F14 T , m14, k14, b14, .nil⟩⟩
  have c_of_one : C8.Cal l.prog w K mg base 2 "of_one" spOfOne [] := ⟨⟨_, _, _, [], ok_of_one F15 T c_half_of c_turned c_changes_of c_counts_of, m15, k15, b15, .nil⟩⟩
  have c_of_two : C8.Cal l.prog w K mg base 1 "of_two" spOfTwo [] := ⟨⟨_, _, _, [], ok_of_two F16 T , m16, k16, b16, .nil⟩⟩
  have c_flow_by : C8.Cal l.prog w K mg base 12 "flow_by" (spFlowBy 9) [] := ok_flow_by F17 T m17 k17 b17 c_parts_of c_of_one c_of_two 9
  have c_flow_of : C8.Cal l.prog w K mg base 13 "flow_of" spFlowOf [] := ⟨⟨_, _, _, [], ok_flow_of F18 T c_want_term c_want_stream c_flow_by, m18, k18, b18, .nil⟩⟩
  have c_put_by : C8.Cal l.prog w K mg base 21 "put_by" (spPutBy 20) [] := ok_put_by F19 T m19 k19 b19 c_parts_of c_with_parts 20
  have c_plain_by : C8.Cal l.prog w K mg base 42 "plain_by" (spPlainBy 20) [] := ok_plain_by F22 T m22 k22 b22 c_parts_of c_with_parts c_put_by 20
  have c__law_pot : C8.Cal l.prog w K mg base 1 "_law_pot" (spPot K) [] := ⟨⟨_, _, _, [], ok_law_pot F24 T , m24, k24, b24, .nil⟩⟩
  have c__law_draw : C8.Cal l.prog w K mg base 1 "_law_draw" spDraw [] := ⟨⟨_, _, _, [], ok_law_draw F25 T , m25, k25, b25, .nil⟩⟩
  have c__law_pick : C8.Cal l.prog w K mg base 2 "_law_pick" spPick [] := ⟨⟨_, _, _, [], ok_law_pick F26 T c__law_draw, m26, k26, b26, .nil⟩⟩
  have c__law_term : C8.Cal l.prog w K mg base 12 "_law_term" (spTerm 9) [] := ok_law_term F27 T m27 k27 b27 c__law_draw c__law_pick 9
  have c__law_single : C8.Cal l.prog w K mg base 1 "_law_single" spOfOne [] := ⟨⟨_, _, _, [], ok_law_single F28 T , m28, k28, b28, .nil⟩⟩
  have c__law_flow : C8.Cal l.prog w K mg base 43 "_law_flow" (spFlowL 40) [] := ok_law_flow F29 T m29 k29 b29 c__law_single 40
  have c__law_stream : C8.Cal l.prog w K mg base 3 "_law_stream" spStream [] := ⟨⟨_, _, _, [], ok_law_stream F30 T c__law_draw c__law_pick, m30, k30, b30, .nil⟩⟩
  have c__law_nodes : C8.Cal l.prog w K mg base 50 "_law_nodes" (spNodes 50) [] := ok_law_nodes F31 T m31 k31 b31  50
  have c__law_put_in : C8.Cal l.prog w K mg base 21 "_law_put_in" (spPutBy 20) [] := ok_law_put_in F32 T m32 k32 b32  20
  have c__law_plain : C8.Cal l.prog w K mg base 42 "_law_plain" (spPlainBy 20) [] := ok_law_plain F33 T m33 k33 b33 c__law_put_in 20
  have c__law_due : C8.Cal l.prog w K mg base 51 "_law_due" spDue [] := ⟨⟨_, _, _, [], ok_law_due F35 T c__law_nodes, m35, k35, b35, .nil⟩⟩
  have d_has_shape : C8.Cal l.prog w K mg base 2 "has_shape" spHasShapeL [] := ⟨⟨_, _, _, [], ok_has_shapeL F7 T c_is_sign c_is_text, m7, k7, b7, .nil⟩⟩
  have u_is_term : C8.Cal l.prog w K mg base 3 "is_term" spIsTermU [] := ⟨⟨_, _, _, [], fnOk_or (ok_is_term F8 T c_has_shape c_parts_of) (ok_is_termL F8 T d_has_shape c_parts_of), m8, k8, b8, .nil⟩⟩
  have GI : FnOk l.prog w K mg base CX0 1 f38 _ ["self", "what", "limit"] (spTMI K CT) := ok_TMI F38 M
  have x_within_limit : CalX l.prog w K mg base 52 "within_limit" (spWithin CT) := ⟨⟨_, _, _, ok_within_limit F20 T M GI b38 c_nodes_of, m20, k20, b20⟩⟩
  have x_put_in : CalX l.prog w K mg base 53 "put_in" (spPutIn CT) := ⟨⟨_, _, _, ok_put_in F21 T c_want_term c_put_by x_within_limit, m21, k21, b21⟩⟩
  have x_plain : CalX l.prog w K mg base 53 "plain" (spPlain CT) := ⟨⟨_, _, _, ok_plain F23 T c_want_term c_plain_by x_within_limit, m23, k23, b23⟩⟩
  have xk_put_in : CalXK l.prog w K mg base 53 "put_in" (spPutIn CT) ["other", "term"] (fun _ ws => ws.reverse) (fun _ zs => zs.reverse) := ⟨⟨_, _, _, ok_put_in F21 T c_want_term c_put_by x_within_limit, m21, k21, kbn_put F21⟩⟩
  have xk_plain : CalXK l.prog w K mg base 53 "plain" (spPlain CT) ["term"] (fun _ ws => ws) (fun _ zs => zs) := ⟨⟨_, _, _, ok_plain F23 T c_want_term c_plain_by x_within_limit, m23, k23, kbn_plain F23⟩⟩
  have c__law_right : C8.Cal l.prog w K mg base 56 "_law_right" (spRight Pt) [] := ⟨⟨_, _, _, [], ok_law_right F36 rfl T M TB F34 m34 b34 c__law_draw c__law_term c__law_stream c__law_nodes c__law_put_in c__law_plain c__law_due c__law_flow u_is_term c_flow_of x_put_in xk_put_in x_plain xk_plain, m36, k36, b36, .nil⟩⟩
  exact ok_law F37 T c__law_pot c__law_right
theorem walkT {l : PySem.W.OpenLaw} {n k : Nat} {q : Program} {loose : List Str} {XP : (Str → Option Value) → Heap → Prop} {YP : World → Heap → Prop} {d : DefRec} {K : Params → PySem.W.Frag} {x : Str}
    (hn : l.most = some n) (hn2 : n ≤ sizeLine) (hdf : d.params.defaults = []) (hr : Room k callerA) (hY : ∀ (w : World) (h : Heap), YP w h → (K w.params).In h)
    (F : ∀ (w : World) (mg mb : Str → Option Value) (fa : Addr) (s₀ : Shared) (h : Heap), PySem.W.Ground q loose [] XP w s₀ mg mb h → (K w.params).In h → mg d.name = some (.ref fa) → LamX.LawAtS l w (K w.params) CX0 k n x mg fa h) :
    PySem.W.WalkO q loose XP YP l.row.toRowW d [] (fun f vs => PySem.call f vs) := by
  refine Att.attach_callB hn hdf fun w s₀ s₁ mg mb fa o pm cd doc a vs ns G Y ho hd hcd hmg hobj hints hlen hbits hg => ?_
  have KX := hY w _ Y
  obtain ⟨fd, cs, sp, hT, nT, C, hb, hsp, hF⟩ := F w mg mb fa s₀ _ G KX hmg
  exact LamX.law_callTs KX G.T.g G.T.b G.T.builtins G.T.nolimit hg hT nT C G.T.bmain hobj hints (Nat.le_trans hlen hn2) hr hF hb (fun H hH hS => hsp H a ns hlen hbits hH hS) fun H e s' z => z
end FY


set_option Elab.async false
set_option maxRecDepth 100000
set_option maxHeartbeats 0
open PySem PySem.W PyProof.Rows
open_top hd24 for PySem.Challenge.rw_flowyard_k24_terms_put_in_and_plain

set_option Elab.async false
open PySem PySem.W PyProof.Rows
set_option maxRecDepth 100000 in
set_option maxHeartbeats 0 in
theorem PySem.Challenge.cw_flowyard_k24_terms_put_in_and_plain_holds : PySem.Challenge.rw_flowyard_k24_terms_put_in_and_plain.Holds := by
  refine hd24 ?_
  k_fill
  refine FY.walkT (k := 57) (x := "_law_script") (l := PySem.Challenge.rw_flowyard_k24_terms_put_in_and_plain) rfl (by decide) rfl ⟨rfl, by decide, by decide⟩ (fun w h Y => PySem.W.km_in_of Y) ?F
  case F =>
    intro w mg mb fa s₀ h Gd KX hmg
    refine' FY.all_mk KX Gd.T ?hrec hmg ?gL ?gC ?a1 ?l1 ?c1 ?k1 ?a2 ?l2 ?c2 ?k2 ?a3 ?l3 ?c3 ?k3 ?a4 ?l4 ?c4 ?k4 ?a5 ?l5 ?c5 ?k5 ?a6 ?l6 ?c6 ?k6 ?a7 ?l7 ?c7 ?k7 ?a8 ?l8 ?c8 ?k8 ?a9 ?l9 ?c9 ?k9 ?a10 ?l10 ?c10 ?k10 ?a11 ?l11 ?c11 ?k11 ?a12 ?l12 ?c12 ?k12 ?a13 ?l13 ?c13 ?k13 ?a14 ?l14 ?c14 ?k14 ?a15 ?l15 ?c15 ?k15 ?a16 ?l16 ?c16 ?k16 ?a17 ?l17 ?c17 ?k17 ?a18 ?l18 ?c18 ?k18 ?a19 ?l19 ?c19 ?k19 ?a20 ?l20 ?c20 ?k20 ?a21 ?l21 ?c21 ?k21 ?a22 ?l22 ?c22 ?k22 ?a23 ?l23 ?c23 ?k23 ?a24 ?l24 ?c24 ?k24 ?a25 ?l25 ?c25 ?k25 ?a26 ?l26 ?c26 ?k26 ?a27 ?l27 ?c27 ?k27 ?a28 ?l28 ?c28 ?k28 ?a29 ?l29 ?c29 ?k29 ?a30 ?l30 ?c30 ?k30 ?a31 ?l31 ?c31 ?k31 ?a32 ?l32 ?c32 ?k32 ?a33 ?l33 ?c33 ?k33 ?a34 ?l34 ?c34 ?k34 ?a35 ?l35 ?c35 ?k35 ?a36 ?l36 ?c36 ?k36 ?a37 ?l37 ?c37 ?k37 ?a38 ?l38 ?c38 ?k38 ?z_len ?z_isinstance ?z_all ?z_sum ?z_abs ?z_max ?z_min ?z_divmod ?z_repr ?z_int ?z_str ?z_tuple ?z_list ?z_zip ?z_range ?g_SIGNS ?h_SIGNS ?g_OF_ONE ?h_OF_ONE ?g_OF_TWO ?h_OF_TWO ?g_IN ?g_LATE ?g_BY ?g_KEEP ?g_THEN ?g_MOST_NODES ?g_MOST_SIGNS ?g_MOST_STREAM ?rd ?ga ?vV ?xi ?xt ?hd ?sa ?sb ?tyC ?kC ?tI ?noW ?noL ?xga ?xgg ?te ?lR ?tb ?nT
    (case hrec => rfl)
    (case gL => k_is)
    (case gC => k_is)
    (case a1 => k_is)
    (case l1 => k_is)
    (case c1 => k_is)
    (case k1 => k_is)
    (case a2 => k_is)
    (case l2 => k_is)
    (case c2 => k_is)
    (case k2 => k_is)
    (case a3 => k_is)
    (case l3 => k_is)
    (case c3 => k_is)
    (case k3 => k_is)
    (case a4 => k_is)
    (case l4 => k_is)
    (case c4 => k_is)
    (case k4 => k_is)
    (case a5 => k_is)
    (case l5 => k_is)
    (case c5 => k_is)
    (case k5 => k_is)
    (case a6 => k_is)
    (case l6 => k_is)
    (case c6 => k_is)
    (case k6 => k_is)
    (case a7 => k_is)
    (case l7 => k_is)
    (case c7 => k_is)
    (case k7 => k_is)
    (case a8 => k_is)
    (case l8 => k_is)
    (case c8 => k_is)
    (case k8 => k_is)
    (case a9 => k_is)
    (case l9 => k_is)
    (case c9 => k_is)
    (case k9 => k_is)
    (case a10 => k_is)
    (case l10 => k_is)
    (case c10 => k_is)
    (case k10 => k_is)
    (case a11 => k_is)
    (case l11 => k_is)
    (case c11 => k_is)
    (case k11 => k_is)
    (case a12 => k_is)
    (case l12 => k_is)
    (case c12 => k_is)
    (case k12 => k_is)
    (case a13 => k_is)
    (case l13 => k_is)
    (case c13 => k_is)
    (case k13 => k_is)
    (case a14 => k_is)
    (case l14 => k_is)
    (case c14 => k_is)
    (case k14 => k_is)
    (case a15 => k_is)
    (case l15 => k_is)
    (case c15 => k_is)
    (case k15 => k_is)
    (case a16 => k_is)
    (case l16 => k_is)
    (case c16 => k_is)
    (case k16 => k_is)
    (case a17 => k_is)
    (case l17 => k_is)
    (case c17 => k_is)
    (case k17 => k_is)
    (case a18 => k_is)
    (case l18 => k_is)
    (case c18 => k_is)
    (case k18 => k_is)
    (case a19 => k_is)
    (case l19 => k_is)
    (case c19 => k_is)
    (case k19 => k_is)
    (case a20 => k_is)
    (case l20 => k_is)
    (case c20 => k_is)
    (case k20 => k_is)
    (case a21 => k_is)
    (case l21 => k_is)
    (case c21 => k_is)
    (case k21 => k_is)
    (case a22 => k_is)
    (case l22 => k_is)
    (case c22 => k_is)
    (case k22 => k_is)
    (case a23 => k_is)
    (case l23 => k_is)
    (case c23 => k_is)
    (case k23 => k_is)
    (case a24 => k_is)
    (case l24 => k_is)
    (case c24 => k_is)
    (case k24 => k_is)
    (case a25 => k_is)
    (case l25 => k_is)
    (case c25 => k_is)
    (case k25 => k_is)
    (case a26 => k_is)
    (case l26 => k_is)
    (case c26 => k_is)
    (case k26 => k_is)
    (case a27 => k_is)
    (case l27 => k_is)
    (case c27 => k_is)
    (case k27 => k_is)
    (case a28 => k_is)
    (case l28 => k_is)
    (case c28 => k_is)
    (case k28 => k_is)
    (case a29 => k_is)
    (case l29 => k_is)
    (case c29 => k_is)
    (case k29 => k_is)
    (case a30 => k_is)
    (case l30 => k_is)
    (case c30 => k_is)
    (case k30 => k_is)
    (case a31 => k_is)
    (case l31 => k_is)
    (case c31 => k_is)
    (case k31 => k_is)
    (case a32 => k_is)
    (case l32 => k_is)
    (case c32 => k_is)
    (case k32 => k_is)
    (case a33 => k_is)
    (case l33 => k_is)
    (case c33 => k_is)
    (case k33 => k_is)
    (case a34 => k_is)
    (case l34 => k_is)
    (case c34 => k_is)
    (case k34 => k_is)
    (case a35 => k_is)
    (case l35 => k_is)
    (case c35 => k_is)
    (case k35 => k_is)
    (case a36 => k_is)
    (case l36 => k_is)
    (case c36 => k_is)
    (case k36 => k_is)
    (case a37 => k_is)
    (case l37 => k_is)
    (case c37 => k_is)
    (case k37 => k_is)
    (case a38 => k_is)
    (case l38 => k_is)
    (case c38 => k_is)
    (case k38 => k_is)
    (case z_len => k_is)
    (case z_isinstance => k_is)
    (case z_all => k_is)
    (case z_sum => k_is)
    (case z_abs => k_is)
    (case z_max => k_is)
    (case z_min => k_is)
    (case z_divmod => k_is)
    (case z_repr => k_is)
    (case z_int => k_is)
    (case z_str => k_is)
    (case z_tuple => k_is)
    (case z_list => k_is)
    (case z_zip => k_is)
    (case z_range => k_is)
    (case g_SIGNS => k_is)
    (case h_SIGNS => k_is)
    (case g_OF_ONE => k_is)
    (case h_OF_ONE => k_is)
    (case g_OF_TWO => k_is)
    (case h_OF_TWO => k_is)
    (case g_IN => k_is)
    (case g_LATE => k_is)
    (case g_BY => k_is)
    (case g_KEEP => k_is)
    (case g_THEN => k_is)
    (case g_MOST_NODES => k_is)
    (case g_MOST_SIGNS => k_is)
    (case g_MOST_STREAM => k_is)
    (case rd => k_is)
    (case ga => k_is)
    (case vV => k_is)
    (case xi => k_is)
    (case xt => rfl)
    (case hd => k_is)
    (case sa => k_is)
    (case sb => k_is)
    (case tyC => k_is)
    (case kC => k_is)
    (case tI => k_is)
    (case noW => k_is)
    (case noL => k_is)
    (case xga => k_is)
    (case xgg => k_is)
    (case te => k_is)
    (case lR => k_is)
    (case tb => rfl)
    (case nT => first | kernel_rfl | rfl)

