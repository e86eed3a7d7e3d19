import PyProof.Rows.All
import HandS.SetFor
import KE.KRevSl
import HandS.HotCalls
import HandS.CallSlots
import HandS.ExcCtx
import PyProof.Rows.StrCut
import HandS.Steps
import HandS.ExcIs
import HandS.IsInst
import HandS.StrMore
import HandS.TupLe
import HandS.Style
import HandS.Walk
import HandS.WordsExc
import HandS.ExcOwn
import HandS.TryOnly
import HandS.Exc
import HandS.ForMost
import KE.GoesMore
import KE.GoesZip
import KE.GoesEnum
import PyProof.StrBlock2
import PyProof.TupleCall
import PyProof.EqKinds
import PyProof.EqAt
import Wide.FinOn
import OpenK.AllK
import Wide.All
import PySem.Challenge.RW_halftold_k01_whole_filled
set_option Elab.async false
set_option linter.all false
set_option maxRecDepth 100000
set_option maxHeartbeats 4000000
/-! Own base layer over HandS. -/
namespace L2
open PySem PySem.Spec PyProof.Rows
/-- an iterator of new pairs: turn i gives (x, y) with pv i x y -/
def ItP (n : Nat) (pv : Nat → V → V → Prop) : It :=
  ⟨fun i _ => i < n, fun i H v H' => ∃ T x y, v = .ref T ∧ H T = none ∧ H' = upd H T (.tup [x, y]) ∧ pv i x y, fun i _ => i = n⟩
theorem turn_pairs (A0 : Around) {P : Program} {w : World} {K : PySem.W.Frag} {elts : List Expr} {kk : Nat} {tpos : Pos} {I0 : Addr} {fp wr : List Addr} {n : Nat} {Pt : Nat → Array Value → Prop} {St : Nat → Heap → Prop} {Mid : Nat → Addr → Heap → Prop}
    (W : ∀ A : Around, A.handled = none → WalksT P w A I0 fp wr n Pt St Mid) (mem : I0 ∈ fp) (obj : ∀ i h, St i h → ∀ b ∈ fp, ∃ o, h.get? b = some o ∧ ∀ v, o.data ≠ .cell v) {pv : Nat → V → V → Prop}
    (hp : ∀ i vals, Pt i vals → ∃ x y u1 u2, vals = #[u1, u2] ∧ RelV x u1 ∧ RelV y u2 ∧ pv i x y)
    (self : ∀ (A : Around) (i : Nat) (s : Shared) (Q : Value → Shared → Prop) (E : Value → Shared → Prop), St i s.heap → Q (.ref I0) s → wpAny (model P w) A (pyIter (.ref I0)) Q E s) :
    Turn P w K (.Tuple elts kk tpos) (ItP n pv) fp I0 St where
  mem := mem
  obj := obj
  keep := fun i h h' st k => (W { A0 with handled := none } rfl).frame i h h' st k
  item := by
    intro X hP hw hK hc i pins s σ H E I hf st hg
    subst hP hw hK
    have W1 := W X.A (I.ok.hd hc)
    have sub : ∀ b ∈ wr, FpOk X pins H b := fun b hb => hf b (W1.sub b hb)
    refine W1.item i s _ _ hg st fun T vals h' tk hv hT hI hM hk => ?_
    refine ⟨_, rfl, W1.go elts kk tpos i T _ _ _ hM fun h'' st'' hk2 => ?_⟩
    obtain ⟨x, y, u1, u2, rfl, r1, r2, q⟩ := hp i vals hv
    have hTw := W1.apart i T h' hM
    have hk3 : ∀ b o, b ∉ wr → s.heap.get? b = some o → h''.get? b = some o := fun b o hb e => hk2 b o hb (hk b o hb e)
    obtain ⟨oT, eT, cT, nT, dT⟩ := hI
    have new : ObjOk X.prog X.w (upd H T (.tup [x, y])) h'' T (.tup [x, y]) :=
      ⟨by show 2 ≤ sizeLine; decide, [u1, u2], .cons r1 (.cons r2 .nil), ⟨oT, hk2 T oT hTw eT, cT, nT, dT⟩⟩
    have I1 : Inv X pins σ (upd H T (.tup [x, y])) { s with heap := h'', toks := tk } := I.turnedNew (ch := wr) hk3 sub hT new
    refine ⟨.ref T, _, I1, rfl, ⟨T, x, y, rfl, I.hok.fresh hT, rfl, q⟩, st'', fun b hb => ?_⟩
    obtain ⟨o, e, _⟩ := obj i s.heap st b hb
    rw [upd_ne (Nat.ne_of_lt (Nat.lt_of_lt_of_le (Heap.lt_size e) hT))]
    exact (hf b hb).1
  done := by
    intro X hP hw hK hc i pins s σ H E I hf st hg
    subst hP hw hK
    have W1 := W X.A (I.ok.hd hc)
    have e : i = n := hg
    subst e
    exact W1.done s _ _ st fun h' tk hk => ⟨rfl, I.turnedL (t' := tk) (ch := wr) hk fun b hb => hf b (W1.sub b hb)⟩
  self := self
theorem walk_pairs {n : Nat} {pv : Nat → V → V → Prop} : Walk (ItP n pv) n (fun _ => True) (fun i H v H' => ∃ T x y, v = .ref T ∧ H T = none ∧ H' = upd H T (.tup [x, y]) ∧ pv i x y) :=
  ⟨fun _ _ hi _ => hi, fun _ _ => rfl, fun _ _ _ _ _ _ y => y⟩
/-! ### enumerate(text) -/
def pvEnS (x : Str) : Nat → V → V → Prop := fun i a b => a = .int (i : Nat) ∧ ∃ c, x.cps[i]? = some c ∧ b = .str ⟨#[c]⟩
def iEnumS (ta : TA) : TI := fun σ H R => ta σ H fun vs H1 => ∃ x, vs = [.str x] ∧ R (ItP x.cps.size (pvEnS x)) H1
theorem pi_enumS {X : Cx} {e : Expr} {ta : TA} {p pos tpos : Pos} {elts : List Expr} {kk : Nat} (hg : Gl X "enumerate") (hm : X.mg "enumerate" = none) (ha : PA X [e] ta) (hs : starEach [e] X.env = [(false, eval e X.env)] := by rfl) :
    PI X (.Tuple elts kk tpos) (.Call (.Name "enumerate" p) [e] [] pos) (iEnumS ta) := by
  refine ⟨fun pins s σ H R I h => ?_⟩
  refine Call_ (ld_blt I hg hm boot_enumerate (PyProof.Rows.callWith_type1 (thn (ha.run pos pins s σ H _ I h) fun us s1 ⟨vs, H1, I1, r1, q1⟩ => ?_) hs rfl))
  obtain ⟨x, ex, q⟩ := q1
  subst ex
  cases r1 with
  | cons r rr =>
    cases rr
    obtain ⟨t, rfl⟩ := r
    refine call_enumerate_str fun h' he hit hsz hk => wpAny_pyIter_enum he ?_
    have I2 : Inv X pins σ H1 { s1 with heap := h' } := I1.kept (t' := s1.toks) hk
    have ne : s1.heap.objs.size + 1 ≠ s1.heap.objs.size := Nat.succ_ne_self _
    refine ⟨s1.heap.objs.size + 1, (s1.heap.objs.size + 1) :: [s1.heap.objs.size], _, _, H1, rfl, I2,
      turn_pairs X.A (fun A hh => WalksT.enumerateD (Draws.text (A := A.in1) hh s1.heap.objs.size x t) (s1.heap.objs.size + 1) ne (by simpa using ne) (by simp)) (by simp) (fun i h st b hb => ?_) (pv := pvEnS x) (fun i vals hv => ?_)
        (fun A i s Q E st h => let ⟨⟨_, he⟩, _⟩ := st; wpAny_pyIter_enum he h), ⟨⟨.none, he⟩, hit⟩, fun b hb => ?_, q⟩
    · obtain ⟨⟨old, he⟩, ⟨o, ho, hc, hd⟩⟩ := st
      have e' : b = s1.heap.objs.size + 1 ∨ b = s1.heap.objs.size := by simpa using hb
      rcases e' with z | z
      · rw [z]; exact ⟨_, he, fun v q => nomatch q⟩
      · rw [z]; exact ⟨o, ho, fun v q => by rw [hd] at q; cases q⟩
    · obtain ⟨t', y, ⟨c, u, hc, rfl⟩, rfl⟩ := hv
      exact ⟨.int (i : Nat), .str ⟨#[c]⟩, _, _, rfl, ⟨_, rfl⟩, ⟨_, rfl⟩, rfl, c, hc, rfl⟩
    · have e' : b = s1.heap.objs.size + 1 ∨ b = s1.heap.objs.size := by simpa using hb
      have hle : s1.heap.objs.size ≤ b := by
        rcases e' with z | z
        · rw [z]; exact Nat.le_add_right _ _
        · rw [z]; exact Nat.le_refl _
      exact I1.fpOk hle (I1.hok.fresh hle)
/-! ### zip(text, text) -/
def pvZS (x y : Str) : Nat → V → V → Prop := fun i a b => (∃ c, x.cps[i]? = some c ∧ a = .str ⟨#[c]⟩) ∧ ∃ d, y.cps[i]? = some d ∧ b = .str ⟨#[d]⟩
def iZipS (ta : TA) : TI := fun σ H R => ta σ H fun vs H1 => ∃ x y, vs = [.str x, .str y] ∧ R (ItP (min x.cps.size y.cps.size) (pvZS x y)) H1
theorem pi_zipS {X : Cx} {e e2 : Expr} {ta : TA} {p pos tpos : Pos} {elts : List Expr} {kk : Nat} (hg : Gl X "zip") (hm : X.mg "zip" = none) (ha : PA X [e, e2] ta)
    (hs : starEach [e, e2] X.env = (false, eval e X.env) :: starEach [e2] X.env := by rfl) (hpl : (backTo pos (starEach [e2] X.env)).any (·.1) = false := by rfl) :
    PI X (.Tuple elts kk tpos) (.Call (.Name "zip" p) [e, e2] [] pos) (iZipS ta) := by
  refine ⟨fun pins s σ H R I h => ?_⟩
  refine Call_ (ld_blt I hg hm PyProof.Rows.boot_zip (PyProof.Rows.callWith_type1 (thn (ha.run pos pins s σ H _ I h) fun us s1 ⟨vs, H1, I1, r1, q1⟩ => ?_) hs hpl))
  obtain ⟨x, y, ex, q⟩ := q1
  subst ex
  cases r1 with
  | cons r rr =>
    cases rr with
    | cons r' rr =>
      cases rr
      obtain ⟨t, rfl⟩ := r
      obtain ⟨t', rfl⟩ := r'
      refine zip_begins2 (begins_text x t) (begins_text y t') trivial trivial fun h' hz hTI hTO g1 g2 hsz hk => wpAny_pyIter_zip hz ?_
      have I2 : Inv X pins σ H1 { s1 with heap := h' } := I1.kept (t' := s1.toks) hk
      have S := zip_sep2 (N := s1.heap.objs.size) (fp1 := []) (fp2 := []) (fun _ z => nomatch z) (fun _ z => nomatch z)
      refine ⟨s1.heap.objs.size + 4, (s1.heap.objs.size + 4) :: (s1.heap.objs.size + 2) :: (s1.heap.objs.size + 3) :: ([s1.heap.objs.size] ++ [s1.heap.objs.size + 1]), _, _, H1, rfl, I2,
        turn_pairs X.A (fun A hh => WalksT.zipD2 S (Draws.text (A := A.in1) hh s1.heap.objs.size x t) (Draws.text (A := A.in1) hh (s1.heap.objs.size + 1) y t')) (by simp) (fun i h st b hb => ?_) (pv := pvZS x y) (fun i vals hv => ?_)
          (fun A i s Q E st h => wpAny_pyIter_zip st.1 h), ⟨hz, hTI, ⟨_, _, hTO⟩, ⟨_, g1, rfl, rfl⟩, ⟨_, g2, rfl, rfl⟩⟩, fun b hb => ?_, q⟩
      · obtain ⟨hz, hTI, ⟨a1, a2, hTO⟩, ⟨o1, e1, _, d1⟩, ⟨o2, e2, _, d2⟩⟩ := st
        have e' : b = s1.heap.objs.size + 4 ∨ b = s1.heap.objs.size + 2 ∨ b = s1.heap.objs.size + 3 ∨ b = s1.heap.objs.size ∨ b = s1.heap.objs.size + 1 := by simpa using hb
        rcases e' with z | z | z | z | z
        · rw [z]; exact ⟨_, hz, fun v q => nomatch q⟩
        · rw [z]; exact ⟨_, hTI, fun v q => nomatch q⟩
        · rw [z]; exact ⟨_, hTO, fun v q => nomatch q⟩
        · rw [z]; exact ⟨o1, e1, fun v q => by rw [d1] at q; cases q⟩
        · rw [z]; exact ⟨o2, e2, fun v q => by rw [d2] at q; cases q⟩
      · obtain ⟨x1, x2, ⟨c, u, hc, rfl⟩, ⟨d, u2, hd, rfl⟩, rfl⟩ := hv
        exact ⟨.str ⟨#[c]⟩, .str ⟨#[d]⟩, _, _, rfl, ⟨_, rfl⟩, ⟨_, rfl⟩, ⟨c, hc, rfl⟩, d, hd, rfl⟩
      · have e' : b = s1.heap.objs.size + 4 ∨ b = s1.heap.objs.size + 2 ∨ b = s1.heap.objs.size + 3 ∨ b = s1.heap.objs.size ∨ b = s1.heap.objs.size + 1 := by simpa using hb
        have hle : s1.heap.objs.size ≤ b := by
          rcases e' with z | z | z | z | z
          · rw [z]; exact Nat.le_add_right _ _
          · rw [z]; exact Nat.le_add_right _ _
          · rw [z]; exact Nat.le_add_right _ _
          · rw [z]; exact Nat.le_refl _
          · rw [z]; exact Nat.le_add_right _ _
        exact I1.fpOk hle (I1.hok.fresh hle)
/-! ### text * int -/
def rMulS : R2 := fun x y H Q => ∃ a n, x = .str a ∧ y = .int n ∧ MulOk a n ∧ Q (.str (Txt.mul a n)) H
theorem op_mulS {X : Cx} : OpR X (binaryOp .Mult) rMulS := by
  intro pins s σ H x y v u Q I rx ry h
  obtain ⟨a, n, rfl, rfl, ho, q⟩ := h
  obtain ⟨t, rfl⟩ := rx
  obtain ⟨t', rfl⟩ := ry
  exact SB.mul ho fun t' k => ⟨.str (Txt.mul a n), H, I.tok _, ⟨_, rfl⟩, q⟩
end L2

set_option Elab.async false
set_option linter.all false
set_option maxRecDepth 100000
set_option maxHeartbeats 4000000
/-! Texts as lists of codes. -/
namespace L2
open PySem PySem.Spec PyProof.Rows PySem.Builtin PySem.Builtin.Str PySem.StrLaws
/-- the text of codes l -/
abbrev St_ (l : List Nat) : Str := ⟨l.toArray⟩
abbrev S (l : List Nat) : V := .str (St_ l)
/-- one sign -/
abbrev ch (c : Nat) : V := .str ⟨#[c]⟩
theorem S_one (c : Nat) : S [c] = ch c := rfl
theorem lit_op : (Str.ofString "(") = St_ [40] := by decide +kernel
theorem lit_cl : (Str.ofString ")") = St_ [41] := by decide +kernel
theorem lit_q : (Str.ofString "?") = St_ [63] := by decide +kernel
theorem lit_e : (Str.ofString "") = St_ [] := by decide +kernel
theorem lit_oc : (Str.ofString "()") = St_ [40, 41] := by decide +kernel
theorem lit_co : (Str.ofString ")(") = St_ [41, 40] := by decide +kernel
theorem lit_ocq : (Str.ofString "()?") = St_ [40, 41, 63] := by decide +kernel
theorem S_inj {a b : List Nat} : (S a = S b) = (a = b) := by
  apply propext
  constructor
  · intro h
    have h1 : (St_ a).cps = (St_ b).cps := by rw [V.str.inj h]
    simpa using congrArg Array.toList h1
  · intro h; rw [h]
theorem ch_inj {a b : Nat} : (ch a = ch b) = (a = b) := by
  have := S_inj (a := [a]) (b := [b])
  simpa using this
theorem len_S (l : List Nat) : (St_ l).length = l.length := by simp [Str.length]
theorem add_S (a b : List Nat) : St_ a ++ St_ b = St_ (a ++ b) := by
  have h : St_ a ++ St_ b = (⟨(St_ a).cps ++ (St_ b).cps⟩ : Str) := rfl
  rw [h]
  simp
/-! ### slices -/
theorem cut_from (l : List Nat) (a : Nat) : cutS (St_ l) (some (a : Int)) none = St_ (l.drop a) := by
  unfold cutS
  rw [HT.sIx_nat, HT.sIx_none, len_S]
  show St_ ((l.drop (min a l.length)).take (l.length - min a l.length)) = _
  have e : l.drop (min a l.length) = l.drop a := by
    by_cases h : a ≤ l.length
    · rw [Nat.min_eq_left h]
    · rw [Nat.min_eq_right (by omega), List.drop_length, List.drop_of_length_le (by omega)]
  rw [e, List.take_of_length_le]
  rw [List.length_drop]; omega
theorem cut_to (l : List Nat) (a : Nat) : cutS (St_ l) none (some (a : Int)) = St_ (l.take a) := by
  unfold cutS
  rw [HT.sIx_nat, HT.sIx_none, len_S]
  show St_ ((l.drop 0).take (min a l.length - 0)) = _
  rw [List.drop_zero, Nat.sub_zero]
  by_cases h : a ≤ l.length
  · rw [Nat.min_eq_left h]
  · rw [Nat.min_eq_right (by omega), List.take_length, List.take_of_length_le (by omega)]
theorem cut_neg (l : List Nat) : cutS (St_ l) (some 1) (some (-1)) = St_ ((l.drop 1).take (l.length - 2)) := by
  have e : HT.sIx l.length l.length (some (-1)) = l.length - 1 := by
    show (if (-1 : Int) < 0 then ((-1 : Int) + (l.length : Int)).toNat else min (-1 : Int).toNat l.length) = l.length - 1
    rw [if_pos (by decide)]; omega
  have e2 : HT.sIx l.length 0 (some 1) = min 1 l.length := HT.sIx_nat l.length 0 1
  unfold cutS
  rw [len_S, e2, e]
  show St_ ((l.drop (min 1 l.length)).take (l.length - 1 - min 1 l.length)) = St_ ((l.drop 1).take (l.length - 2))
  cases l with
  | nil => rfl
  | cons x r =>
    have e1 : min 1 (x :: r).length = 1 := by simp
    rw [e1]
    simp
/-! ### join -/
theorem glued_nil (ls : List (List Nat)) (a : List Nat) : (ls.map St_).foldl (fun acc p => acc ++ (St_ []).cps ++ p.cps) a.toArray = (a ++ ls.flatten).toArray := by
  induction ls generalizing a with
  | nil => simp
  | cons x r ih =>
    have e : a.toArray ++ (St_ []).cps ++ (St_ x).cps = (a ++ x).toArray := by simp
    rw [List.map_cons, List.foldl_cons, e, ih]
    simp
theorem join_S (ls : List (List Nat)) : Txt.join (St_ []) (ls.map St_) = St_ ls.flatten := by
  show glued (St_ []) (ls.map St_) = _
  unfold glued
  cases ls with
  | nil => rfl
  | cons x r =>
    have h := glued_nil r x
    show (⟨((r.map St_).foldl (fun acc p => acc ++ (St_ []).cps ++ p.cps) x.toArray)⟩ : Str) = _
    rw [h]
    simp
theorem flat_one (l : List Nat) : (l.map fun c => [c]).flatten = l := by
  induction l with
  | nil => rfl
  | cons x r ih => simp [ih]
theorem join_ch (l : List Nat) : Txt.join (St_ []) ((l.map fun c => [c]).map St_) = St_ l := by rw [join_S, flat_one]
theorem sum_ch (l : List Nat) : ((((l.map fun c => [c]).map St_).map (·.length)).sum + ((l.map fun c => [c]).map St_).length * (St_ []).length) = l.length := by
  have e : (((l.map fun c => [c]).map St_).map (·.length)).sum = l.length := by
    induction l with
    | nil => rfl
    | cons x r ih =>
      rw [List.map_cons, List.map_cons, List.map_cons, List.sum_cons, ih, len_S, List.length_cons]
      show 1 + r.length = r.length + 1
      omega
  rw [e, len_S]
  simp
theorem map_ch (l : List Nat) : ((l.map fun c => [c]).map St_).map V.str = l.map ch := by
  simp
/-! ### count -/
theorem occ_count (l : List Nat) (c : Nat) : ∀ (k n : Nat) (st : Array Nat × Nat), n + k = l.length + 1 → st.2 ≤ n → st.1.size ≤ n →
    (forIn (List.range' n k) st (occBody (St_ l) ⟨#[c]⟩ l.length (l.length + 1))).run.fst.size = st.1.size + (l.drop n).count c
  | 0, n, st, h, _, _ => by
    rw [List.drop_of_length_le (by omega)]
    simp
  | k + 1, n, st, h, h2, h3 => by
    rw [show List.range' n (k + 1) = n :: List.range' (n + 1) k from rfl, List.forIn_cons]
    by_cases hn : n < l.length
    · have ed : l.drop n = l[n] :: l.drop (n + 1) := List.drop_eq_getElem_cons hn
      have hs := subAt_one (St_ l) c n
      rw [len_S] at hs
      by_cases hc : l[n] = c
      · have hx : (St_ l).cps.toList[n]? = some c := by
          show l[n]? = some c
          rw [List.getElem?_eq_getElem hn, hc]
        obtain ⟨a1, a2⟩ := hs.mpr hx
        unfold occBody
        rw [if_pos ⟨⟨⟨by omega, h2⟩, a1⟩, a2⟩]
        have ih := occ_count l c k (n + 1) (st.1.push n, n + (⟨#[c]⟩ : Str).length) (by omega) (Nat.le_refl _) (by simp; omega)
        have e1 : (forIn (List.range' (n + 1) k) (st.1.push n, n + (⟨#[c]⟩ : Str).length) (occBody (St_ l) ⟨#[c]⟩ l.length (l.length + 1))).run.fst.size = st.1.size + (l.drop n).count c := by
          rw [ih, ed, List.count_cons, hc]
          simp
          omega
        exact e1
      · have hx : ¬ (n + (⟨#[c]⟩ : Str).length ≤ l.length ∧ subAt (St_ l) ⟨#[c]⟩ n = true) := fun q => by
          have := hs.mp q
          have e : l[n]? = some c := this
          rw [List.getElem?_eq_getElem hn] at e
          exact hc (Option.some.inj e)
        unfold occBody
        rw [if_neg fun q => hx ⟨q.1.2, q.2⟩]
        have ih := occ_count l c k (n + 1) (st.1, st.2) (by omega) (by show st.2 ≤ n + 1; omega) (by show st.1.size ≤ n + 1; omega)
        have e1 : (forIn (List.range' (n + 1) k) (st.1, st.2) (occBody (St_ l) ⟨#[c]⟩ l.length (l.length + 1))).run.fst.size = st.1.size + (l.drop n).count c := by
          rw [ih, ed, List.count_cons]
          simp [hc]
        exact e1
    · have hx : ¬ (n + (⟨#[c]⟩ : Str).length ≤ l.length) := by
        show ¬ (n + 1 ≤ l.length)
        omega
      unfold occBody
      rw [if_neg fun q => hx q.1.2]
      have ih := occ_count l c k (n + 1) (st.1, st.2) (by omega) (by show st.2 ≤ n + 1; omega) (by show st.1.size ≤ n + 1; omega)
      have e1 : (forIn (List.range' (n + 1) k) (st.1, st.2) (occBody (St_ l) ⟨#[c]⟩ l.length (l.length + 1))).run.fst.size = st.1.size + (l.drop n).count c := by
        rw [ih, List.drop_of_length_le (by omega), List.drop_of_length_le (by omega)]
      exact e1
theorem count_S (l : List Nat) (c : Nat) : Txt.count (St_ l) ⟨#[c]⟩ = (l.count c : Nat) := by
  unfold Txt.count
  rw [occ_eq, len_S]
  have h := occ_count l c (l.length + 1 - 0) 0 (#[], 0) (by omega) (Nat.le_refl _) (by simp)
  rw [Array.length_toList]
  simp only [List.drop_zero] at h
  rw [h]
  simp
/-! ### strip -/
theorem drop_tw (p : Nat → Bool) : ∀ l : List Nat, l.drop (l.takeWhile p).length = l.dropWhile p
  | [] => rfl
  | x :: r => by
    cases h : p x with
    | true => rw [List.takeWhile_cons, List.dropWhile_cons, h]; simpa using drop_tw p r
    | false => rw [List.takeWhile_cons, List.dropWhile_cons, h]; simp
theorem dw_nil (p : Nat → Bool) : ∀ l : List Nat, l.dropWhile p = [] → ∀ c ∈ l, p c = true
  | [], _, c, hc => by cases hc
  | x :: r, h, c, hc => by
    cases hx : p x with
    | true =>
      rw [List.dropWhile_cons, hx] at h
      rcases List.mem_cons.mp hc with e | e
      · rw [e]; exact hx
      · exact dw_nil p r (by simpa using h) c e
    | false =>
      rw [List.dropWhile_cons, hx] at h
      simp at h
theorem tw_le (p : Nat → Bool) : ∀ l : List Nat, (l.takeWhile p).length ≤ l.length
  | [] => Nat.le_refl _
  | x :: r => by
    rw [List.takeWhile_cons]
    split
    · have := tw_le p r
      simp only [List.length_cons]; omega
    · simp
theorem tw_all (p : Nat → Bool) : ∀ l : List Nat, (∀ c ∈ l, p c = true) → l.takeWhile p = l
  | [], _ => rfl
  | x :: r, h => by
    rw [List.takeWhile_cons, h x (List.mem_cons_self ..)]
    simp only [if_true]
    rw [tw_all p r fun c hc => h c (List.mem_cons_of_mem _ hc)]
theorem strip_S (l m : List Nat) : (Txt.stripChars (St_ l) (St_ m) = St_ []) ↔ ∀ c ∈ l, c ∈ m := by
  unfold Txt.stripChars
  rw [PyProof.Rows.stripBy_eq]
  have hg : ∀ c, (St_ m).cps.contains c = m.contains c := fun c => by simp
  have hlo : stripLo (St_ m).cps.contains true (St_ l) = (l.takeWhile m.contains).length := by
    unfold stripLo
    rw [if_pos rfl]
    show (l.takeWhile _).length = _
    congr 1
    congr 1
    funext c
    exact hg c
  constructor
  · intro h c hc
    refine Classical.byContradiction fun hn => ?_
    have h1 : ((St_ l).cps.extract (stripLo (St_ m).cps.contains true (St_ l)) (stripHi (St_ m).cps.contains true (St_ l) (stripLo (St_ m).cps.contains true (St_ l)))).size = 0 := by
      have := congrArg (fun s : Str => s.cps.size) h
      simpa [strSub] using this
    rw [Array.size_extract] at h1
    rw [hlo] at h1
    have hsz : (St_ l).cps.size = l.length := by simp
    rw [hsz] at h1
    -- the first that is not in m
    obtain ⟨x, r, he⟩ : ∃ x r, l.dropWhile m.contains = x :: r := by
      cases hd : l.dropWhile m.contains with
      | cons x r => exact ⟨x, r, rfl⟩
      | nil =>
        have := dw_nil _ l hd c hc
        exact absurd (by simpa using this) hn
    have hx : m.contains x = false := by
      have := List.head?_dropWhile_not m.contains l
      rw [he] at this
      simpa using this
    have happ : l.takeWhile m.contains ++ l.dropWhile m.contains = l := List.takeWhile_append_dropWhile
    have hlen : (l.takeWhile m.contains).length + (l.dropWhile m.contains).length = l.length := by
      rw [← List.length_append, happ]
    rw [he] at hlen
    simp only [List.length_cons] at hlen
    have hhi : (l.takeWhile m.contains).length < stripHi (St_ m).cps.contains true (St_ l) (l.takeWhile m.contains).length := by
      unfold stripHi
      rw [if_pos rfl, len_S]
      have ed : (St_ l).cps.toList.drop (l.takeWhile m.contains).length = x :: r := by
        show l.drop _ = _
        rw [drop_tw, he]
      rw [ed]
      have e3 : ((x :: r).reverse.takeWhile (St_ m).cps.contains).length ≤ r.length := by
        rw [List.reverse_cons, List.takeWhile_append]
        split
        · rename_i hh
          simp only [List.length_append, List.takeWhile_cons, hg, hx]
          simp [hh]
        · have := tw_le (St_ m).cps.contains r.reverse
          simp only [List.length_reverse] at this
          exact this
      omega
    omega
  · intro h
    have e : l.takeWhile m.contains = l := by
      refine tw_all _ l fun c hc => ?_
      simpa using h c hc
    rw [hlo, e]
    unfold strSub
    have : (St_ l).cps.extract l.length (stripHi (St_ m).cps.contains true (St_ l) l.length) = #[] := by
      apply Array.eq_empty_of_size_eq_zero
      rw [Array.size_extract]
      have hsz : (St_ l).cps.size = l.length := by simp
      omega
    rw [this]
/-! ### times -/
theorem mul_S (l : List Nat) (n : Nat) : Txt.mul (St_ l) (n : Int) = St_ (List.replicate n l).flatten := by
  unfold Txt.mul
  by_cases h0 : n = 0
  · subst h0; rfl
  rw [if_neg (by omega)]
  by_cases h1 : ((n : Int) == 1 || (St_ l).length == 0) = true
  · rw [if_pos h1]
    rw [Bool.or_eq_true] at h1
    rcases h1 with h | h
    · have : n = 1 := by have := eq_of_beq h; omega
      subst this
      simp
    · have : l = [] := by
        have := eq_of_beq h
        rw [len_S] at this
        exact List.length_eq_zero_iff.mp this
      subst this
      have : ∀ k, (List.replicate k ([] : List Nat)).flatten = [] := fun k => by simp
      rw [this]
  · rw [if_neg h1]
    have key : ∀ (k : Nat) (a : List Nat), (List.replicate k (St_ l).cps).foldl (· ++ ·) a.toArray = (a ++ (List.replicate k l).flatten).toArray := by
      intro k
      induction k with
      | zero => intro a; simp
      | succ k ih =>
        intro a
        rw [List.replicate_succ, List.foldl_cons]
        have e : a.toArray ++ (St_ l).cps = (a ++ l).toArray := by simp
        rw [e, ih, List.replicate_succ]
        simp
    have := key n []
    simp only [List.nil_append] at this
    rw [Int.toNat_natCast]
    show (⟨_⟩ : Str) = _
    rw [this]
theorem mulOk_S (l : List Nat) (n : Nat) (h : l.length * n ≤ 16777216) (hn : n ≤ 1000000) : MulOk (St_ l) (n : Int) := by
  refine ⟨?_, fun _ _ => ?_, fun _ _ => ?_⟩
  · rw [decide_eq_false (by omega), decide_eq_false (by omega)]
    rfl
  · rw [len_S]
    intro q
    by_cases h0 : n = 0
    · subst h0; omega
    · have h2 : ((2 : Int) ^ 63 - 1) / (n : Int) ≥ 16777216 := by
        apply Int.le_ediv_of_mul_le (by omega)
        have : (16777216 : Int) * (n : Int) ≤ 16777216 * 1000000 := by omega
        omega
      have h3 : l.length ≤ 16777216 := by
        have : l.length * 1 ≤ l.length * n := Nat.mul_le_mul_left _ (by omega)
        omega
      omega
  · rw [len_S, Int.toNat_natCast]
    unfold tooLong
    rw [sizeLine_eq]
    simp
    omega
end L2

set_option Elab.async false
set_option linter.all false
set_option maxRecDepth 100000
set_option maxHeartbeats 4000000
/-! Loops, comprehensions, defs. -/
namespace L2
open PySem PySem.Spec PyProof.Rows
theorem passLN {X : Cx} : Passes (L2N.CX X.prog X.w) X E0 := fun _ _ _ _ _ _ _ h => by
  obtain ⟨_, _, _, _, _, _, _, _, _, _, _, _, z⟩ := h
  exact z.elim
/-- around a body nothing is let out -/
theorem takes0N {X : Cx} : L2N.Takes X (fun _ _ _ _ => False) := fun _ _ x => by
  obtain ⟨_, _, _, _, _, _, _, _, _, _, _, _, _, _, _, _, z⟩ := x
  exact z.elim
theorem Fun.okXN {P : Program} {w : World} {K : PySem.W.Frag} {mg : Str → Option Value} {base : Heap} {x qual : Str} {st : Stmt} {f : Addr} {fd : FuncData} {N ps : List Str} {k : Nat} {sp : Sp} (F : Fun K x qual st f fd) (S : FnScope N ps (defScope st)) (len : ∀ vs H Q E, sp vs H Q E → vs.length = ps.length)
    (hbody : ∀ (cdv : Value) (A : Around) (outer : List Env) (s : Shared) (H : Hp) (vs : List V) (Q : VK) (E : XK), Room k (A.deeper (envOfC qual (defScope st) s.heap.objs.size f cdv)) → sp vs H Q E →
      ∃ t, PSs (cxOf (L2N.CX P w) P w K mg base N qual (defScope st) f cdv A outer s H E) (defBody st) t ∧ t { nx := fun _ H' => Q .non H', rt := Q } (start N vs) H) : FnOk P w K mg base (L2N.CX P w) (k + 1) f fd ps sp := by
  obtain ⟨oc, od, kV, doc, pm, an, cdv, ct, osl, rfl, lk, hcd⟩ := F.ex
  exact fn_of lk hcd S len fun A outer s H vs Q E hr hsp => hbody cdv A outer s H vs Q E hr hsp
/-- a def of the text as it stands -/
structure DefIn (K : PySem.W.Frag) (mg : Str → Option Value) (x q : Str) (st : Stmt) (ps : List Str) : Type where
  a : Addr
  fd : FuncData
  F : Fun K x q st a fd
  g : mg x = some (.ref a)
  b : Binds K fd ps []
theorem Same.new {H : Hp} {p : Addr} {o : HO} (h : H p = none) : Same H (upd H p o) := fun b x e => by
  rw [upd_ne (ne_of_none e h)]
  exact e
/-- what H does not know may change -/
theorem Same.mut {H H' : Hp} {p : Addr} {o : HO} (e : Same H H') (h : H p = none) : Same H (upd H' p o) := fun a u ha => by
  rw [upd_ne (ne_of_none ha h)]
  exact e a u ha
theorem Same.seqT {K : PySem.W.Frag} {H H' : Hp} {a : Addr} {xs : List V} (e : Same H H') (h : SqT K H a xs) : SqT K H' a xs := by
  rcases h with (h | ⟨o, h⟩) | h
  · exact .inl (.inl (e _ _ h))
  · exact .inl (.inr ⟨o, e _ _ h⟩)
  · exact .inr h
theorem sz5 {n : Nat} (h : n ≤ 100000) : n ≤ sizeLine := Nat.le_trans h (by decide)
theorem sz5l {n : Nat} (h : n ≤ 100000) : n < sizeLine := Nat.lt_of_le_of_lt h (by decide)
theorem szS {l : List Nat} (h : l.length ≤ 100000) : (St_ l).length ≤ sizeLine := by rw [len_S]; exact sz5 h
theorem take_split {α : Type} {l : List α} {i : Nat} {c : α} (h : l[i]? = some c) : l = l.take i ++ c :: l.drop (i + 1) ∧ l.take (i + 1) = l.take i ++ [c] ∧ (l.take i).length = i := by
  obtain ⟨hi, e⟩ := List.getElem?_eq_some_iff.mp h
  refine ⟨?_, ?_, ?_⟩
  · rw [← e, ← List.drop_eq_getElem_cons hi, List.take_append_drop]
  · rw [List.take_add_one, h]; rfl
  · rw [List.length_take]; omega
section
variable {K : PySem.W.Frag} {g : TG} {tb : TS} {D : Ends} {σ : St} {H : Hp}
abbrev LoopOk (J : It) (g : TG) (tb : TS) (D : Ends) (σ : St) (H : Hp) : Prop :=
  ∃ W : Nat → Nat → St → Hp → Prop, (∃ m, W 0 m σ H) ∧ ∀ i m σ H, W i m σ H →
      (J.stop i H ∧ D.nx σ H) ∨ (J.go i H ∧ ∃ N : St → Hp → Prop, (∀ σ' H', N σ' H' → ∃ m', m' < m ∧ W (i + 1) m' σ' H') ∧ ∀ x H', J.yld i H x H' → g x σ H' fun σ2 H2 => tb { D with nx := N, ct := N, bk := D.nx } σ2 H2)
/-- for c in text -/
theorem for_txt {l : List Nat} (Pv : List Nat → St → Hp → Prop) (h0 : Pv [] σ H)
    (hs : ∀ p c r σ H, l = p ++ c :: r → Pv p σ H → g (ch c) σ H fun σ2 H2 => tb { D with nx := Pv (p ++ [c]), ct := Pv (p ++ [c]), bk := D.nx } σ2 H2) (hd : ∀ σ H, Pv l σ H → D.nx σ H) : LoopOk (Its (St_ l)) g tb D σ H := by
  refine for_it (walk_str (z := St_ l)) (fun i σ H => Pv (l.take i) σ H) h0 (fun _ _ _ _ _ => trivial) (fun i x σ H H' hi p y => ?_) (fun σ H p => hd σ H ?_)
  · obtain ⟨rfl, c, hc, rfl⟩ := y
    have hc' : l[i]? = some c := by simpa using hc
    obtain ⟨e1, e2, e3⟩ := take_split hc'
    rw [e2]
    exact hs _ c _ σ _ e1 p
  · have e : l.take (St_ l).cps.size = l := List.take_of_length_le (by simp)
    rw [e] at p
    exact p
theorem g2 {i j : Nat} {T : Addr} {x y : V} {Q : St → Hp → Prop} (h : H T = some (.tup [x, y])) (q : Q ((σ.set i (some x)).set j (some y)) H) : gTup K 2 (gCons (gName i) (gCons (gName j) gNil)) (.ref T) σ H Q :=
  ⟨T, [x, y], rfl, SqT.of h, rfl, x, [y], rfl, y, [], rfl, rfl, q⟩
/-- for i, c in enumerate(text) -/
theorem for_enS {l : List Nat} {i j : Nat} (Pv : List Nat → St → Hp → Prop) (h0 : Pv [] σ H)
    (hs : ∀ p c r σ H H', l = p ++ c :: r → Pv p σ H → Same H H' → tb { D with nx := Pv (p ++ [c]), ct := Pv (p ++ [c]), bk := D.nx } ((σ.set i (some (.int (p.length : Nat)))).set j (some (ch c))) H') (hd : ∀ σ H, Pv l σ H → D.nx σ H) :
    LoopOk (ItP (St_ l).cps.size (pvEnS (St_ l))) (gTup K 2 (gCons (gName i) (gCons (gName j) gNil))) tb D σ H := by
  refine for_it walk_pairs (fun i σ H => Pv (l.take i) σ H) h0 (fun _ _ _ _ _ => trivial) (fun i x σ H H' hi p y => ?_) (fun σ H p => hd σ H ?_)
  · obtain ⟨T, x, y, rfl, nT, rfl, rfl, c, hc, rfl⟩ := y
    have hc' : l[i]? = some c := by simpa using hc
    obtain ⟨e1, e2, e3⟩ := take_split hc'
    refine g2 upd_same ?_
    rw [e2]
    have z := hs _ c _ σ H (upd H T (.tup [.int (i : Nat), ch c])) e1 p (Same.new nT)
    rw [e3] at z
    exact z
  · have e : l.take (St_ l).cps.size = l := List.take_of_length_le (by simp)
    rw [e] at p
    exact p
/-- for x in a list that stands still; the list is f of xs -/
theorem for_lstM {α : Type} {f : α → V} {xs : List α} {a : Addr} (Pv : List α → St → Hp → Prop) (h0 : Pv [] σ H) (hl : ∀ p σ H, Pv p σ H → SqL K H a (xs.map f))
    (hs : ∀ p c r σ H, xs = p ++ c :: r → Pv p σ H → g (f c) σ H fun σ2 H2 => tb { D with nx := Pv (p ++ [c]), ct := Pv (p ++ [c]), bk := D.nx } σ2 H2) (hd : ∀ σ H, Pv xs σ H → D.nx σ H) : LoopOk (Itl K a) g tb D σ H := by
  refine for_it (walk_list (K := K) (a := a) (xs := xs.map f)) (fun i σ H => Pv (xs.take i) σ H) h0 (fun _ _ _ _ p => hl _ _ _ p) (fun i x σ H H' hi p y => ?_) (fun σ H p => hd σ H ?_)
  · obtain ⟨rfl, hx⟩ := y
    rw [List.getElem?_map] at hx
    cases hc : xs[i]? with
    | none => rw [hc] at hx; cases hx
    | some c =>
      rw [hc] at hx
      have hx : f c = x := Option.some.inj hx
      subst hx
      obtain ⟨e1, e2, e3⟩ := take_split hc
      rw [e2]
      exact hs _ c _ σ _ e1 p
  · have e : xs.take (xs.map f).length = xs := List.take_of_length_le (by simp)
    rw [e] at p
    exact p
/-- for i, x in enumerate(a list that stands still) -/
theorem for_enL {α : Type} {f : α → V} {xs : List α} {a : Addr} {i j : Nat} (Pv : List α → St → Hp → Prop) (h0 : Pv [] σ H) (hl : ∀ p σ H, Pv p σ H → SqL K H a (xs.map f))
    (hs : ∀ p c r σ H H', xs = p ++ c :: r → Pv p σ H → Same H H' → tb { D with nx := Pv (p ++ [c]), ct := Pv (p ++ [c]), bk := D.nx } ((σ.set i (some (.int (p.length : Nat)))).set j (some (f c))) H') (hd : ∀ σ H, Pv xs σ H → D.nx σ H) :
    LoopOk (Ite K a) (gTup K 2 (gCons (gName i) (gCons (gName j) gNil))) tb D σ H := by
  refine for_it (walk_enum (K := K) (a := a) (xs := xs.map f)) (fun i σ H => Pv (xs.take i) σ H) h0 (fun _ _ _ _ p => hl _ _ _ p) (fun i x σ H H' hi p y => ?_) (fun σ H p => hd σ H ?_)
  · obtain ⟨T, x, y, rfl, nT, rfl, hx1, hx⟩ := y
    have hx1 : V.int (i : Nat) = x := Option.some.inj hx1
    subst hx1
    have hx : (xs.map f)[i]? = some y := hx
    rw [List.getElem?_map] at hx
    cases hc : xs[i]? with
    | none => rw [hc] at hx; cases hx
    | some c =>
      rw [hc] at hx
      have hx : f c = y := Option.some.inj hx
      subst hx
      obtain ⟨e1, e2, e3⟩ := take_split hc
      refine g2 upd_same ?_
      rw [e2]
      have z := hs _ c _ σ H (upd H T (.tup [.int (i : Nat), f c])) e1 p (Same.new nT)
      rw [e3] at z
      exact z
  · have e : xs.take (xs.map f).length = xs := List.take_of_length_le (by simp)
    rw [e] at p
    exact p
end
/-! ### comprehensions -/
abbrev CompOk (J : It) (g : TG) (tt : TT) (te : TE) (vs : List Nat) (σ : St) (H1 : Hp) (D : Addr) (Qd : Hp → Prop) : Prop :=
    ∃ W : Nat → Nat → Hp → Prop, (∃ m, W 0 m (upd H1 D (.lst []))) ∧ ∀ i m H, W i m H →
      (J.stop i H ∧ Qd H) ∨ (J.go i H ∧ ∃ Nx : Hp → Prop, (∀ H', Nx H' → ∃ m', m' < m ∧ W (i + 1) m' H') ∧ ∀ x H', J.yld i H x H' → g x (wipe σ vs) H' fun σ2 H2 => wipe σ2 vs = wipe σ vs ∧ tt σ2 H2 fun b H3 =>
        if b = true then te σ2 H3 fun y H4 => ∃ acc, H4 D = some (.lst acc) ∧ acc.length < sizeLine ∧ Nx (upd H4 D (.lst (acc ++ [y]))) else Nx H3)
section
variable {J : It} {n : Nat} {G : Hp → Prop} {Y : Nat → Hp → V → Hp → Prop} {g : TG} {tt : TT} {te : TE} {vs : List Nat} {σ : St} {H1 : Hp} {D : Addr} {Qd : Hp → Prop}
/-- no test, the element gives f i and leaves what stands -/
theorem lc_pure (w : Walk J n G Y) (f : Nat → V) (hD : H1 D = none) (hn : n ≤ 100000) (hG : ∀ H, Same H1 H → G H) (hY : ∀ i H x H', Y i H x H' → Same H H')
    (he : ∀ i x H H', i < n → Same H1 H → Y i H x H' → Same H1 H' → ∀ (Q : VK) (R : Hp → Prop), (∀ H4, Same H' H4 → Q (f i) H4) → g x (wipe σ vs) H' fun σ2 H2 => wipe σ2 vs = wipe σ vs ∧ tt σ2 H2 fun b H3 => if b = true then te σ2 H3 Q else R H3)
    (hd : ∀ H, Same H1 H → H D = some (.lst ((List.range n).map f)) → Qd H) : CompOk J g tt te vs σ H1 D Qd := by
  refine lc_it w (fun i H => Same H1 H ∧ H D = some (.lst ((List.range i).map f))) ⟨Same.new hD, upd_same⟩ (fun i H _ p => hG H p.1) (fun i x H H' hi p y => ?_) (fun H p => hd H p.1 p.2)
  have s1 := hY i H x H' y
  refine he i x H H' hi p.1 y (p.1.trans s1) _ _ fun H4 s2 => ?_
  have e4 := s2 _ _ (s1 _ _ p.2)
  refine ⟨_, e4, ?_, ((p.1.trans s1).trans s2).mut hD, ?_⟩
  · rw [List.length_map, List.length_range]; exact sz5l (by omega)
  · rw [upd_same, List.range_succ, List.map_append]; rfl
end
theorem ixN_nat {n j : Nat} (h : j < n) : ixN n (j : Int) = some j := by
  unfold ixN
  rw [if_pos (by omega), if_pos (by omega), Int.toNat_natCast]
theorem map_k {α β : Type} (b : β) : ∀ l : List α, l.map (fun _ => b) = List.replicate l.length b
  | [] => rfl
  | _ :: r => by rw [List.map_cons, map_k b r]; rfl
theorem rangeMapN {α : Type} (l : List α) (F : α → V) (d : α) : (List.range l.length).map (fun i => F (l.getD i d)) = l.map F := by
  apply List.ext_getElem
  · simp
  · intro i h1 h2
    simp at h1
    simp [List.getD, h1]
section
variable {K : PySem.W.Frag} {tt : TT} {te : TE} {vs : List Nat} {σ : St} {H1 : Hp} {D : Addr} {Qd : Hp → Prop}
/-- [F c for c in text] -/
theorem lc_txt {l : List Nat} {j : Nat} (F : Nat → V) (hD : H1 D = none) (hn : l.length ≤ 100000) (hw : ∀ x, wipe ((wipe σ vs).set j (some x)) vs = wipe σ vs)
    (he : ∀ c H', c ∈ l → Same H1 H' → ∀ (Q : VK) (R : Hp → Prop), (∀ H4, Same H' H4 → Q (F c) H4) → tt ((wipe σ vs).set j (some (ch c))) H' fun b H3 => if b = true then te ((wipe σ vs).set j (some (ch c))) H3 Q else R H3)
    (hd : ∀ H, Same H1 H → H D = some (.lst (l.map F)) → Qd H) : CompOk (Its (St_ l)) (gName j) tt te vs σ H1 D Qd := by
  have hsz : (St_ l).cps.size = l.length := by simp
  refine lc_pure (walk_str (z := St_ l)) (fun i => F (l.getD i 0)) hD (by rw [hsz]; exact hn) (fun _ _ => trivial) (fun i H x H' y => by rw [y.1]; exact Same.refl _) (fun i x H H' hi s y s' Q R q => ?_) (fun H s e => hd H s ?_)
  · obtain ⟨rfl, c, hc, rfl⟩ := y
    have hc' : l[i]? = some c := by simpa using hc
    have e : l.getD i 0 = c := by rw [List.getD, hc']; rfl
    refine ⟨hw _, he c _ (List.mem_of_getElem? hc') s' Q R fun H4 s4 => ?_⟩
    have := q H4 s4
    rw [e] at this
    exact this
  · rw [hsz, rangeMapN] at e
    exact e
/-- [F x for x in a list that stands still] -/
theorem lc_lstM {α : Type} [Inhabited α] {f : α → V} {xs : List α} {a : Addr} {j : Nat} (F : α → V) (hD : H1 D = none) (hn : xs.length ≤ 100000) (hl : SqL K H1 a (xs.map f)) (hw : ∀ x, wipe ((wipe σ vs).set j (some x)) vs = wipe σ vs)
    (he : ∀ c H', c ∈ xs → Same H1 H' → ∀ (Q : VK) (R : Hp → Prop), (∀ H4, Same H' H4 → Q (F c) H4) → tt ((wipe σ vs).set j (some (f c))) H' fun b H3 => if b = true then te ((wipe σ vs).set j (some (f c))) H3 Q else R H3)
    (hd : ∀ H, Same H1 H → H D = some (.lst (xs.map F)) → Qd H) : CompOk (Itl K a) (gName j) tt te vs σ H1 D Qd := by
  have hsz : (xs.map f).length = xs.length := by simp
  refine lc_pure (walk_list (K := K) (a := a) (xs := xs.map f)) (fun i => F (xs.getD i default)) hD (by rw [hsz]; exact hn) (fun H s => s.seq hl) (fun i H x H' y => by rw [y.1]; exact Same.refl _) (fun i x H H' hi s y s' Q R q => ?_) (fun H s e => hd H s ?_)
  · obtain ⟨rfl, hx⟩ := y
    rw [List.getElem?_map] at hx
    cases hc : xs[i]? with
    | none => rw [hc] at hx; cases hx
    | some c =>
      rw [hc] at hx
      have hx : f c = x := Option.some.inj hx
      subst hx
      have e : xs.getD i default = c := by rw [List.getD, hc]; rfl
      refine ⟨hw _, he c _ (List.mem_of_getElem? hc) s' Q R fun H4 s4 => ?_⟩
      have := q H4 s4
      rw [e] at this
      exact this
  · rw [hsz, rangeMapN] at e
    exact e
end
section
variable {K : PySem.W.Frag} {te : TE} {vs : List Nat} {σ : St} {H1 : Hp} {D : Addr} {Qd : Hp → Prop}
theorem lc_txtY {l : List Nat} {j : Nat} (F : Nat → V) (hD : H1 D = none) (hn : l.length ≤ 100000) (hw : ∀ x, wipe ((wipe σ vs).set j (some x)) vs = wipe σ vs)
    (he : ∀ c H', c ∈ l → Same H1 H' → ∀ Q : VK, (∀ H4, Same H' H4 → Q (F c) H4) → te ((wipe σ vs).set j (some (ch c))) H' Q)
    (hd : ∀ H, Same H1 H → H D = some (.lst (l.map F)) → Qd H) : CompOk (Its (St_ l)) (gName j) tYes te vs σ H1 D Qd :=
  lc_txt F hD hn hw (fun c H' hc s Q R q => by
    show (if true = true then te ((wipe σ vs).set j (some (ch c))) H' Q else R H')
    rw [if_pos rfl]
    exact he c H' hc s Q q) hd
theorem lc_lstY {α : Type} [Inhabited α] {f : α → V} {xs : List α} {a : Addr} {j : Nat} (F : α → V) (hD : H1 D = none) (hn : xs.length ≤ 100000) (hl : SqL K H1 a (xs.map f)) (hw : ∀ x, wipe ((wipe σ vs).set j (some x)) vs = wipe σ vs)
    (he : ∀ c H', c ∈ xs → Same H1 H' → ∀ Q : VK, (∀ H4, Same H' H4 → Q (F c) H4) → te ((wipe σ vs).set j (some (f c))) H' Q)
    (hd : ∀ H, Same H1 H → H D = some (.lst (xs.map F)) → Qd H) : CompOk (Itl K a) (gName j) tYes te vs σ H1 D Qd :=
  lc_lstM F hD hn hl hw (fun c H' hc s Q R q => by
    show (if true = true then te ((wipe σ vs).set j (some (f c))) H' Q else R H')
    rw [if_pos rfl]
    exact he c H' hc s Q q) hd
end
/-! ### joining ways -/
section
variable {te ta tb : TE} {t : TT} {i : Nat} {rest : TS} {D : Ends} {σ : St} {H : Hp} {v v1 v2 : V}
theorem sq_set (v : V) (h : ∀ Q : VK, Q v H → te σ H Q) (k : rest D (σ.set i (some v)) H) : tSeq (tAsg te (gName i)) rest D σ H := h _ k
theorem s_set (v : V) (h : ∀ Q : VK, Q v H → te σ H Q) (k : D.nx (σ.set i (some v)) H) : tAsg te (gName i) D σ H := h _ k
theorem val_if {c : Bool} (hc : ∀ Q : Bool → Hp → Prop, Q c H → t σ H Q) (h1 : c = true → ∀ Q : VK, Q v1 H → ta σ H Q) (h2 : c = false → ∀ Q : VK, Q v2 H → tb σ H Q) : ∀ Q : VK, Q (if c then v1 else v2) H → tIf t ta tb σ H Q := fun Q q => hc _ (by
  cases c with
  | true => exact h1 rfl Q q
  | false => exact h2 rfl Q q)
end
theorem join_rd {K : PySem.W.Frag} {p : Addr} {t : List Nat} {H : Hp} {Q : VK} (h : SqL K H p (t.map ch)) (hn : t.length ≤ 100000) (q : Q (S t) H) :
    ∃ a p', ∃ ys : List Str, V.str (Str.ofString "") = .str a ∧ [V.ref p] = [.ref p'] ∧ (SqL K H p' (ys.map V.str) ∨ SqT K H p' (ys.map V.str)) ∧ (ys.map (·.length)).sum + ys.length * a.length ≤ 16777216 ∧ Q (.str (Txt.join a ys)) H := by
  refine ⟨_, p, (t.map fun c => [c]).map St_, rfl, rfl, .inl (by rw [map_ch]; exact h), ?_, ?_⟩
  · rw [lit_e, sum_ch]; omega
  · rw [lit_e, join_ch]; exact q
theorem cutV_to (xs : List V) (k : Nat) : cutV xs none (some (k : Int)) = xs.take k := by
  unfold cutV
  rw [HT.sIx_nat, HT.sIx_none, List.drop_zero, Nat.sub_zero]
  by_cases h : k ≤ xs.length
  · rw [Nat.min_eq_left h]
  · rw [Nat.min_eq_right (by omega), List.take_length, List.take_of_length_le (by omega)]
theorem cutV_from (xs : List V) (k : Nat) : cutV xs (some (k : Int)) none = xs.drop k := by
  unfold cutV
  rw [HT.sIx_nat, HT.sIx_none]
  by_cases h : k ≤ xs.length
  · rw [Nat.min_eq_left h, List.take_of_length_le (by rw [List.length_drop]; omega)]
  · rw [Nat.min_eq_right (by omega), List.drop_length, List.drop_of_length_le (by omega), List.take_nil]
/-! ### tests of signs -/
theorem d_ch (a b : Nat) : decide (ch a = ch b) = decide (a = b) := by
  rw [decide_eq_decide, ch_inj]
theorem d_op (c : Nat) : decide (ch c = V.str (Str.ofString "(")) = decide (c = 40) := by rw [lit_op]; exact d_ch c 40
theorem d_cl (c : Nat) : decide (ch c = V.str (Str.ofString ")")) = decide (c = 41) := by rw [lit_cl]; exact d_ch c 41
theorem d_q (c : Nat) : decide (ch c = V.str (Str.ofString "?")) = decide (c = 63) := by rw [lit_q]; exact d_ch c 63
theorem d_int (a b : Int) : decide (V.int a = V.int b) = decide (a = b) := by
  rw [decide_eq_decide]
  exact ⟨V.int.inj, fun h => by rw [h]⟩
theorem d_S (a b : List Nat) : decide (S a = S b) = decide (a = b) := by rw [decide_eq_decide, S_inj]
end L2

set_option Elab.async false
set_option linter.all false
set_option maxRecDepth 100000
set_option maxHeartbeats 4000000
/-! Calls of a name that holds one of several defs; suites. -/
namespace L2
open PySem PySem.Spec PyProof.Rows
/-- what a def at f promises, for several f -/
def HeldX (P : Program) (w : World) (K : PySem.W.Frag) (mg : Str → Option Value) (base : Heap) (CX : CXT) (k : Nat) (f : Addr) (sp : Sp) : Prop :=
  ∃ (fd : FuncData) (ps : List Str), FnOk P w K mg base CX k f fd ps sp ∧ PySem.W.keepIn K (.ref f) = true ∧ Binds K fd ps []
def tCallX (i : Nat) (S : Addr → Sp → Prop) (E : St → XK) (t : TA) : TE := fun σ H Q => ∃ f sp, σ[i]? = some (some (.ref f)) ∧ S f sp ∧ t σ H fun vs H1 => sp vs H1 Q (E σ)
section
variable {X : Cx} {CX : CXT} {k i : Nat} {E : St → XK} {x : Str} {p pos : Pos} {e : Expr} {es : List Expr} {t : TA} {S : Addr → Sp → Prop}
theorem pe_callX (A : ∀ f sp, S f sp → HeldX X.prog X.w X.K X.mg X.base CX k f sp) (hr : Room k X.A) (hN : X.N[i]? = some x) (hv : Vis X.env.scope x) (hx : ∀ σ, PassesAt CX X σ (E σ)) (ha : PA X (e :: es) t)
    (hdb : (x == ("__debug__" : Str)) = false := by decide) (hcd : (x == ("__classdict__" : Str)) = false := by decide)
    (he : starEach (e :: es) X.env = (false, eval e X.env) :: starEach es X.env := by rfl) (hpl : (backTo pos (starEach es X.env)).any (·.1) = false := by rfl) : PE X (.Call (.Name x p) (e :: es) [] pos) (tCallX i S E t) := by
  refine ⟨fun pins s σ H Q I h => ?_⟩
  obtain ⟨f, sp, hs, hS, ht⟩ := h
  obtain ⟨fd, ps, F, hk, hb⟩ := A f sp hS
  refine wpAny_Call_Name_kw (thn ((pe_var (pos := p) hN hv hdb hcd).run pins s σ H (fun v H1 => v = .ref f ∧ H1 = H) I ⟨.ref f, hs, rfl, rfl⟩) fun u s1 ⟨v, H1, I1, r1, q1⟩ => ?_)
  obtain ⟨rfl, rfl⟩ := q1
  cases r1
  refine PySem.W.callWith_K (h₀ := X.base) I.ok.mod.kin hk (thn (ha.run pos pins s1 σ _ _ I1 ht) fun us s2 ⟨vs, H2, I2, r, q⟩ => ⟨I2.kIn, ?_⟩) he hpl
  exact run_fnS F hr hb (hx σ) I2 r q
end
theorem pss_if {X : Cx} {st : List Stmt} {t : TS} {p : Prop} (h : p → PSs X st t) : PSs X st (fun D σ H => p ∧ t D σ H) := ⟨fun pins s σ H D I hw => (h hw.1).run pins s σ H D I hw.2⟩
end L2
namespace L2
open PySem PySem.Spec PyProof.Rows L2H HotX
section
variable {prog : Program} {w : World} {A : Around} {E : Value → Shared → Prop} {s : Shared}
theorem pyNext_list_end_hot {it l x1 : Addr} {i : Nat} {items : Array Value} {Q : Option Value → Shared → Prop} (hot : HotAt A x1 s.heap)
    (hit : s.heap.IsListIter it l i) (hl : s.heap.IsList l items) (hx : items[i]? = none) (hne : x1 ≠ it)
    (hQ : ∀ h', Heap.ExtBut it s.heap h' → Q none { s with heap := h' }) : wpAny (model prog w) A (pyNext (.ref it)) Q E s := by
  obtain ⟨o, ho, hc, hd⟩ := id hit
  obtain ⟨ol, hol, _, nl, hdl⟩ := hl
  obtain ⟨hh, o1, vs1, h1, d1, c1⟩ := hot
  unfold pyNext
  refine wpAny_bind (wpAny_attempt (wpAny_callSpecial?_slot (name := Str.ofString "__next__") hit.typeIs slot_listiter_next
    (wpAny_call_entry slot_listiter_next hit.typeIs entry_listiter_next ?_ (args_listiter_next _))))
  show wpAny _ _ (field (.ref it) 0 >>= _) _ _ s
  refine wpAny_bind (wpAny_field ho hd (x := .ref l) rfl ?_)
  show wpAny _ _ (if (Value.ref l == Value.none) = true then _ else _) _ _ s
  rw [if_neg (show ¬ ((Value.ref l == Value.none) = true) from Bool.false_ne_true)]
  show wpAny _ _ (field (.ref it) 1 >>= _) _ _ s
  refine wpAny_bind (wpAny_field ho hd (x := .int i 0) rfl ?_)
  show wpAny _ _ (seqItems? (.ref l) >>= _) _ _ s
  refine wpAny_bind (wpAny_seqItems hol hdl ?_)
  simp only [Int.toNat_natCast, hx]
  refine wpAny_bind (wpAny_rule (wpAny_bind (wpAny_setField ho hd (by simp) ?_)))
  show wpAny _ _ (newExc (.type "StopIteration") [] >>= _) _ _ _
  refine wpAny_bind ?_
  simp only [newExc, newTuple]
  refine wpAny_bind (wpAny_newObj_type ?_ (by size_fits))
  refine wpAny_bind (m := firstArgMember _ _) (wpAny_of_eq (a := Value.none) (by first | rfl | (simp only [firstArgMember]; rfl)) ?_)
  refine wpAny_newObj_type ?_ (by size_fits)
  have ex : Heap.ExtBut it s.heap (s.heap.update it (Obj.mapFields (·.setIfInBounds 0 .none))) := (Heap.SameBut.update ..).extBut
  have g1 := ex x1 o1 hne h1
  refine raiseNew_hot ⟨hh, o1, vs1, Heap.get?_push_of_some _ (Heap.get?_push_of_some _ g1), d1, c1⟩ (Nat.ne_of_lt (Heap.lt_size (Heap.get?_push_of_some _ g1))) (Heap.get?_push_size _ rfl) rfl (by first | (simp; done) | (simp; omega) | (simp only [Array.size_append]; simp; omega)) ?_
  refine wpAny_bind (wpAny_isInstance (T := "StopIteration") (b := true) ⟨_, Heap.get?_update_self _ (Heap.get?_push_size _ rfl) rfl, rfl⟩ isSubtype_stop ?_)
  refine wpAny_pure (hQ _ fun b o hb e => ?_)
  have e2 := Heap.get?_push_of_some { cls := .type "tuple", data := .seq #[] } (ex b o hb e)
  rw [Heap.get?_update_other _ _ (Nat.ne_of_gt (Heap.lt_size e2))]
  exact Heap.get?_push_of_some _ e2
end
theorem Walks.listHot {prog : Program} {w : World} {A : Around} {x1 : Addr} (hh : A.handled = some (.ref x1)) (I ax : Addr) (hne : ax ≠ I) (hx : x1 ≠ I) (items : Array Value) :
    Walks prog w A I [I, ax, x1] [I] items.size (fun i v => items[i]? = some v) (fun i h => (h.IsListIter I ax i ∧ h.IsList ax items) ∧ HotAt A x1 h) where
  sub := fun b hb => by simp at hb; simp [hb]
  frame := fun _ _ _ st hk => ⟨⟨st.1.1.at fun o e => hk I (by simp) o e, st.1.2.at fun o e => hk ax (by simp) o e⟩, let ⟨a, o, vs, b, c, d⟩ := st.2; ⟨a, o, vs, hk x1 (by simp) o b, c, d⟩⟩
  item := fun i s Q E hi st hQ => by
    refine wpAny_pyNext_list_item st.1.1 st.1.2 (x := items[i]) (by simp [hi]) fun h' hit' hs' => ?_
    obtain ⟨a, o, vs, b, c, d⟩ := st.2
    exact hQ _ h' s.toks (by simp [hi]) ⟨⟨hit', st.1.2.extBut hs'.extBut hne⟩, a, o, vs, hs'.extBut x1 o hx b, c, d⟩ fun b o hb e => hs'.extBut b o (fun h => hb (by simp [h])) e
  done := fun s Q E st hQ => pyNext_list_end_hot st.2 st.1.1 st.1.2 (by simp) hx fun h' he' => hQ h' s.toks fun b o hb e => he' b o (fun h => hb (by simp [h])) e
  self := fun _ _ _ _ st hQ => wpAny_pyIter_listiter st.1.1 hQ
theorem cr_anyH {X : Cx} (hc : HotC X) : CallR X (.builtin "any") (rAny X.K) := by
  intro pins s σ H vs us Q I r h
  obtain ⟨a, bs, rfl, hs, q⟩ := h
  obtain ⟨its, rv, hl, _⟩ := I.list hs
  rw [Vals.ref1 r]
  have hb := rv.bls
  obtain ⟨x1, hot⟩ := hc.at I
  have hx1 : x1 < s.heap.objs.size := by obtain ⟨_, o, _, e, _⟩ := hot; exact Heap.lt_size e
  refine call_any_walk (iter_any hl.isList fun s₂ e2 st hne => ?_)
  subst e2
  refine ⟨_, _, _, _, _, _, _, rfl, Walks.listHot (A := X.A.in1) (x1 := x1) hot.1 _ a hne (Nat.ne_of_lt hx1) its.toArray, ⟨st, hot.1, let ⟨o, vs, b, c, d⟩ := hot.2; ⟨o, vs, Heap.get?_push_of_some _ b, c, d⟩⟩, truth_bools hb, fun h' tk hk => ?_⟩
  refine ⟨.bl _, H, I.kept fun b o eo => hk b o (fun hmem => ?_) (Heap.get?_push_of_some _ eo), ?_, q⟩
  · rcases List.mem_cons.mp hmem with e1 | hmem
    · exact absurd (e1 ▸ Heap.lt_size eo) (Nat.lt_irrefl _)
    · cases hmem
  · show Value.bool _ = Value.bool _
    rw [← any_range, hb, List.size_toArray, List.length_map]
end L2
namespace L2
open PySem PySem.Spec PyProof.Rows
theorem hot_suite {X : Cx} {a : Addr} {oe : Obj} {cls : Value} {d : Option Addr} {pn : List (Addr × Obj)} (hz : L2N.Zn cls d oe) (hf : ∃ vs, oe.data = .fields vs) : L2H.HotC (X.suite a ((a, oe) :: pn)) := by
  obtain ⟨vs, hv⟩ := hf
  exact ⟨(a, oe), ⟨rfl, vs, hv, hz.2.2 vs hv⟩, List.mem_cons_self ..⟩
end L2

set_option Elab.async false
set_option linter.all false
set_option maxRecDepth 100000
set_option maxHeartbeats 4000000
/-! More readings. -/
namespace L2
open PySem PySem.Spec PyProof.Rows
section
variable {X : Cx}
/-- a statement, then the rest, with a word between them -/
def tCut2 (t u : TS) : TS := fun D σ H => ∃ Mid : St → Hp → Prop, t { D with nx := Mid } σ H ∧ ∀ σ' H', Mid σ' H' → u D σ' H'
theorem pss_cut2 {st : Stmt} {rest : List Stmt} {t u : TS} (h1 : PS X st t) (h2 : PSs X rest u) : PSs X (st :: rest) (tCut2 t u) := by
  refine ⟨fun pins s σ H D I h => ?_⟩
  obtain ⟨Mid, hm, hu⟩ := h
  refine wpAny_execs_cons (thn (h1.run pins s σ H { D with nx := Mid } I hm) fun f s1 q => ?_)
  cases f with
  | next =>
    obtain ⟨σ', H', I', q⟩ := q
    exact h2.run pins s1 σ' H' D I' (hu σ' H' q)
  | ret v => exact q
  | brk => exact q
  | cont => exact q
end
section
variable {te : TE} {i : Nat} {rest : TS} {D : Ends} {σ : St} {H : Hp} {Q : VK} {t tr : TA} {v : V} {Qa : List V → Hp → Prop}
theorem sq_asg (h : te σ H fun x H1 => rest D (σ.set i (some x)) H1) : tSeq (tAsg te (gName i)) rest D σ H := h
theorem lst_in (h : t σ H fun xs H1 => xs.length ≤ sizeLine ∧ ∀ p, H1 p = none → Q (.ref p) (upd H1 p (.lst xs))) : tLst t σ H Q := h
theorem tup_in (h : t σ H fun xs H1 => xs.length ≤ sizeLine ∧ ∀ p, H1 p = none → Q (.ref p) (upd H1 p (.tup xs))) : tTup t σ H Q := h
theorem cons_val (v : V) (h : ∀ Q : VK, Q v H → te σ H Q) (k : tr σ H fun xs H2 => Qa (v :: xs) H2) : tCons te tr σ H Qa := h _ k
theorem nx_in {t : TS} (h : t D σ H) : tSeq Ends.nx t D σ H := h
theorem nil_val (k : Qa [] H) : tNil σ H Qa := k
end
/-! ### a written dict of brackets -/
theorem ne_oc : (Sum.inr (Str.ofString "(") : Key) ≠ Sum.inr (Str.ofString ")") := by
  intro h
  have h := Sum.inr.inj h
  rw [lit_op, lit_cl] at h
  exact absurd h (by decide)
theorem oc_val {va vb : V} {c : Nat} : valV (mergeK [] [((Sum.inr (Str.ofString "(") : Key), va), (Sum.inr (Str.ofString ")"), vb)]) (Sum.inr ⟨#[c]⟩ : Key) = if c = 40 then some va else if c = 41 then some vb else none := by
  show valV (putK (putK [] (Sum.inr (Str.ofString "(") : Key) va) (Sum.inr (Str.ofString ")") : Key) vb) (Sum.inr ⟨#[c]⟩ : Key) = _
  rw [valV_put, valV_put, valV_nil, lit_op, lit_cl]
  have e : ∀ a b : Nat, ((Sum.inr (⟨#[a]⟩ : Str) : Key) = Sum.inr ⟨#[b]⟩) = (a = b) := fun a b => propext ⟨fun h => by
    have := Sum.inr.inj h
    simpa using this, fun h => by rw [h]⟩
  show (if (Sum.inr (⟨#[c]⟩ : Str) : Key) = Sum.inr ⟨#[41]⟩ then some vb else if (Sum.inr (⟨#[c]⟩ : Str) : Key) = Sum.inr ⟨#[40]⟩ then some va else none) = _
  by_cases h1 : c = 40
  · subst h1
    rw [if_neg (by rw [e]; decide), if_pos rfl, if_pos rfl]
  · by_cases h2 : c = 41
    · subst h2
      rw [if_pos rfl, if_neg h1, if_pos rfl]
    · rw [if_neg (by rw [e]; exact h2), if_neg (by rw [e]; exact h1), if_neg h1, if_neg h2]
section
variable {σ : St} {H : Hp} {Q : VK} {ta tb ty tx : TE} {va vb z : V} {c : Nat}
abbrev tOC (ta tb : TE) : TE := tDisp [(tC (.str (Str.ofString "(")), ta), (tC (.str (Str.ofString ")")), tb)]
theorem rd_oc0 (h1 : ∀ H Q, Q va H → ta σ H Q) (h2 : ∀ H Q, Q vb H → tb σ H Q)
    (q : ∀ p H', Same H H' → H p = none → H' p = some (.dK (mergeK [] [((Sum.inr (Str.ofString "(") : Key), va), (Sum.inr (Str.ofString ")"), vb)])) → Q (.ref p) H') : tOC ta tb σ H Q := by
  refine fun p np => h1 _ _ (h2 _ _ ⟨upd_same, [((Sum.inr (Str.ofString "(") : Key), va), (Sum.inr (Str.ofString ")"), vb)], rfl, by show 2 ≤ 15; decide, ?_⟩)
  refine q p _ ?_ np upd_same
  exact (Same.new np).mut np
/-- {'(': a, ')': b}[sign] -/
theorem rd_oc (h1 : ∀ H Q, Q va H → ta σ H Q) (h2 : ∀ H Q, Q vb H → tb σ H Q) (hy : ∀ H Q, Q (ch c) H → ty σ H Q) (hc : c = 40 ∨ c = 41)
    (q : ∀ H', Same H H' → Q (if c = 40 then va else vb) H') : tDGet (tOC ta tb) ty σ H Q := by
  refine rd_oc0 (Q := fun x H1 => ty σ H1 fun y H2 => ∃ a v, x = .ref a ∧ DGet H2 a y (some v) ∧ Q v H2) h1 h2 fun p H' sm np hp => hy _ _ ⟨p, _, rfl, ?_, q H' sm⟩
  have e := DGet.k (k := Sum.inr ⟨#[c]⟩) hp
  rw [oc_val] at e
  rcases hc with h | h
  · subst h; exact e
  · subst h; exact e
/-- {'(': a, ')': b}.get(sign, z) -/
theorem rd_oc2 (h1 : ∀ H Q, Q va H → ta σ H Q) (h2 : ∀ H Q, Q vb H → tb σ H Q) (hy : ∀ H Q, Q (ch c) H → ty σ H Q) (hx : ∀ H' Q, Same H H' → Q z H' → tx σ H' Q)
    (q : ∀ H', Same H H' → Q (if c = 40 then va else if c = 41 then vb else z) H') : tDGet2 (tOC ta tb) ty tx σ H Q := by
  refine rd_oc0 (Q := fun x H1 => ∃ a, x = .ref a ∧ IsD H1 a ∧ ty σ H1 fun y H2 => tx σ H2 fun z H3 => ∃ o, DGet H3 a y o ∧ Q (o.getD z) H3) h1 h2 fun p H' sm np hp => ⟨p, rfl, .inl ⟨_, .inl hp⟩, hy _ _ (hx _ _ sm ⟨_, DGet.k (k := Sum.inr ⟨#[c]⟩) hp, ?_⟩)⟩
  rw [oc_val]
  have := q H' sm
  by_cases h1 : c = 40
  · rw [if_pos h1] at this ⊢; exact this
  · by_cases h2 : c = 41
    · rw [if_neg h1, if_pos h2] at this ⊢; exact this
    · rw [if_neg h1, if_neg h2] at this ⊢; exact this
end
/-! ### lists of ints as data -/
theorem eqvAll_ints : ∀ a b : List Int, PyData.eqvAll (a.map PyData.int) (b.map PyData.int) = decide (a = b)
  | [], [] => rfl
  | [], _ :: _ => rfl
  | _ :: _, [] => rfl
  | x :: a, y :: b => by
    show (PyData.eqv (.int x) (.int y) && PyData.eqvAll (a.map PyData.int) (b.map PyData.int)) = _
    rw [eqvAll_ints a b]
    show ((x == y) && _) = _
    by_cases h : x = y
    · subst h; simp
    · simp [h]
theorem canLay_ints : ∀ a : List Int, PyData.canLayAll0 (a.map PyData.int) = true
  | [] => rfl
  | x :: a => by
    show (PyData.canLay0 (.int x) && PyData.canLayAll0 (a.map PyData.int)) = true
    rw [canLay_ints a]; rfl
theorem depth_ints : ∀ a : List Int, PyData.depthAll (a.map PyData.int) = 0
  | [] => rfl
  | x :: a => by
    show max (PyData.depth (.int x)) (PyData.depthAll (a.map PyData.int)) = 0
    rw [depth_ints a]; rfl
theorem shaped_ints (a : List Int) : SeqAt.shaped (.list (a.map PyData.int)) = true := by
  unfold SeqAt.shaped
  have h1 : PyData.canLay0 (.list (a.map PyData.int)) = true := canLay_ints a
  have h2 : PyData.depth (.list (a.map PyData.int)) = 1 := by
    show PyData.depthAll (a.map PyData.int) + 1 = 1
    rw [depth_ints]
  rw [h1, h2]; rfl
theorem dp_ints {K : PySem.W.Frag} {H : Hp} : ∀ a : List Int, DpAll K H (a.map V.int) (a.map PyData.int)
  | [] => .nil
  | x :: a => .cons (.int x) (dp_ints a)
theorem rd_neL {K : PySem.W.Frag} {H : Hp} {Q : VK} {p q : Addr} {a b : List Int} (h1 : SqL K H p (a.map V.int)) (h2 : SqL K H q (b.map V.int)) (k : Q (.bl (!decide (a = b))) H) : rNeD K (.ref p) (.ref q) H Q := by
  refine ⟨_, _, .lst h1 (dp_ints a), .lst h2 (dp_ints b), shaped_ints a, shaped_ints b, ?_⟩
  have e : PyData.eqv (.list (a.map PyData.int)) (.list (b.map PyData.int)) = decide (a = b) := by
    rw [PyData.eqv]; exact eqvAll_ints a b
  rw [e]
  exact k
/-! ### isinstance of plain things -/
theorem isi_int {K : PySem.W.Frag} {H : Hp} {Q : VK} {i : Int} {n : String} {b : Bool} (hk : kitB "int" n = some b) (q : Q (.bl b) H) : rIsi K [.int i, .ty n] H Q := ⟨_, _, _, _, b, rfl, .ty n, .base (.int i), kit_ty hk, q⟩
theorem isi_bl {K : PySem.W.Frag} {H : Hp} {Q : VK} {i : Bool} {n : String} {b : Bool} (hk : kitB "bool" n = some b) (q : Q (.bl b) H) : rIsi K [.bl i, .ty n] H Q := ⟨_, _, _, _, b, rfl, .ty n, .base (.bl i), kit_ty hk, q⟩
theorem isi_str {K : PySem.W.Frag} {H : Hp} {Q : VK} {i : Str} {n : String} {b : Bool} (hk : kitB "str" n = some b) (q : Q (.bl b) H) : rIsi K [.str i, .ty n] H Q := ⟨_, _, _, _, b, rfl, .ty n, .base (.str i), kit_ty hk, q⟩
theorem isi_lst {K : PySem.W.Frag} {H : Hp} {Q : VK} {p : Addr} {xs : List V} {n : String} {b : Bool} (h : H p = some (.lst xs)) (hk : kitB "list" n = some b) (q : Q (.bl b) H) : rIsi K [.ref p, .ty n] H Q := ⟨_, _, _, _, b, rfl, .ty n, .base (.lst h), kit_ty hk, q⟩
end L2

set_option linter.all false
/-! The mathematics of rows: codes 40 ( 41 ) 63 ?. -/
namespace BR
def dst (d : Int) (c : Nat) : Int := if c = 40 then d + 1 else d - 1
def fin (d : Int) (l : List Nat) : Int := l.foldl dst d
def dpi (d : Int) : List Nat → List Int
  | [] => []
  | c :: r => d :: dpi (dst d c) r
/-- how many are open at each place, and at the end -/
def dps (d : Int) (l : List Nat) : List Int := dpi d l ++ [fin d l]
theorem fin_nil (d : Int) : fin d [] = d := rfl
theorem fin_cons (d : Int) (c : Nat) (r : List Nat) : fin d (c :: r) = fin (dst d c) r := rfl
theorem fin_app (d : Int) (a b : List Nat) : fin d (a ++ b) = fin (fin d a) b := by
  unfold fin; rw [List.foldl_append]
theorem fin_snoc (d : Int) (a : List Nat) (c : Nat) : fin d (a ++ [c]) = dst (fin d a) c := by rw [fin_app]; rfl
theorem dpi_app : ∀ (d : Int) (a b : List Nat), dpi d (a ++ b) = dpi d a ++ dpi (fin d a) b
  | _, [], _ => rfl
  | d, c :: r, b => by
    show d :: dpi (dst d c) (r ++ b) = d :: (dpi (dst d c) r ++ dpi (fin d (c :: r)) b)
    rw [dpi_app]; rfl
theorem dpi_snoc (d : Int) (a : List Nat) (c : Nat) : dpi d (a ++ [c]) = dps d a := by rw [dpi_app]; rfl
theorem dps_snoc (d : Int) (a : List Nat) (c : Nat) : dps d (a ++ [c]) = dps d a ++ [dst (fin d a) c] := by
  unfold dps
  rw [dpi_snoc, fin_snoc]; rfl
theorem dpi_len : ∀ (d : Int) (l : List Nat), (dpi d l).length = l.length
  | _, [] => rfl
  | d, c :: r => by show (dpi (dst d c) r).length + 1 = r.length + 1; rw [dpi_len]
theorem dps_len (d : Int) (l : List Nat) : (dps d l).length = l.length + 1 := by unfold dps; rw [List.length_append, dpi_len]; rfl
/-- the depth behind the first i signs -/
theorem dps_get (d : Int) (l : List Nat) (i : Nat) (h : i ≤ l.length) : (dps d l)[i]? = some (fin d (l.take i)) := by
  by_cases hi : i < l.length
  · have e : l = l.take i ++ l[i] :: l.drop (i + 1) := by rw [← List.drop_eq_getElem_cons hi, List.take_append_drop]
    have h2 : dps d l = dpi d (l.take i) ++ (fin d (l.take i) :: (dpi (dst (fin d (l.take i)) l[i]) (l.drop (i + 1)) ++ [fin d l])) := by
      conv => lhs; unfold dps; rw [e, dpi_app]
      show (_ ++ (_ :: _)) ++ _ = _
      rw [List.append_assoc, ← e]; rfl
    have h3 : (dpi d (l.take i)).length = i := by rw [dpi_len, List.length_take]; omega
    rw [h2, List.getElem?_append_right (by omega), h3, Nat.sub_self]; rfl
  · have e : i = l.length := by omega
    subst e
    unfold dps
    rw [List.getElem?_append_right (by rw [dpi_len]; exact Nat.le_refl _), dpi_len, Nat.sub_self, List.take_length]; rfl
/-- the run of a row: how many are open at the end, none where too many close or a sign is no bracket -/
def run : Nat → List Nat → Option Nat
  | d, [] => some d
  | d, c :: r => if c = 40 then run (d + 1) r else if c = 41 then (match d with | 0 => none | k + 1 => run k r) else none
theorem run_op (d : Nat) (r : List Nat) : run d (40 :: r) = run (d + 1) r := rfl
theorem run_cl0 (r : List Nat) : run 0 (41 :: r) = none := rfl
theorem run_cl (k : Nat) (r : List Nat) : run (k + 1) (41 :: r) = run k r := rfl
theorem run_no {c : Nat} (h1 : c ≠ 40) (h2 : c ≠ 41) (d : Nat) (r : List Nat) : run d (c :: r) = none := by
  show (if c = 40 then _ else if c = 41 then _ else none) = none
  rw [if_neg h1, if_neg h2]
theorem run_app : ∀ (a : List Nat) (d : Nat) (b : List Nat), run d (a ++ b) = (run d a).bind fun e => run e b
  | [], _, _ => rfl
  | c :: r, d, b => by
    by_cases h : c = 40
    · subst h
      rw [List.cons_append, run_op, run_op, run_app]
    · by_cases h2 : c = 41
      · subst h2
        cases d with
        | zero => rfl
        | succ k =>
          rw [List.cons_append, run_cl, run_cl, run_app]
      · rw [List.cons_append, run_no h h2, run_no h h2]; rfl
theorem run_add : ∀ (l : List Nat) (d e k : Nat), run d l = some e → run (d + k) l = some (e + k)
  | [], d, e, k, h => by
    have : d = e := Option.some.inj h
    rw [this]; rfl
  | c :: r, d, e, k, h => by
    unfold run at h ⊢
    by_cases h1 : c = 40
    · rw [if_pos h1] at h ⊢
      have := run_add r (d + 1) e k h
      rw [show d + k + 1 = d + 1 + k by omega]
      exact this
    · rw [if_neg h1] at h ⊢
      by_cases h2 : c = 41
      · rw [if_pos h2] at h ⊢
        cases d with
        | zero => cases h
        | succ j =>
          have := run_add r j e k h
          rw [show j + 1 + k = (j + k) + 1 by omega]
          exact this
      · rw [if_neg h2] at h; cases h
/-- signs that are brackets -/
def Br (l : List Nat) : Prop := ∀ c ∈ l, c = 40 ∨ c = 41
/-- a row: brackets and rubbed signs -/
def IsRow (l : List Nat) : Prop := ∀ c ∈ l, c = 40 ∨ c = 41 ∨ c = 63
def isClosed (l : List Nat) : Bool := decide (63 ∉ l) && ((dps 0 l).all (fun d => decide (0 ≤ d)) && decide (fin 0 l = 0))
theorem Br.row {l : List Nat} (h : Br l) : IsRow l := fun c hc => (h c hc).elim .inl fun e => .inr (.inl e)
theorem run_br : ∀ (l : List Nat) (d e : Nat), run d l = some e → Br l
  | [], _, _, _, c, hc => by cases hc
  | x :: r, d, e, h, c, hc => by
    unfold run at h
    by_cases h1 : x = 40
    · rw [if_pos h1] at h
      rcases List.mem_cons.mp hc with q | q
      · exact .inl (q.trans h1)
      · exact run_br r _ _ h c q
    · rw [if_neg h1] at h
      by_cases h2 : x = 41
      · rw [if_pos h2] at h
        rcases List.mem_cons.mp hc with q | q
        · exact .inr (q.trans h2)
        · cases d with
          | zero => cases h
          | succ j => exact run_br r _ _ h c q
      · rw [if_neg h2] at h; cases h
theorem run_fin : ∀ (l : List Nat) (d e : Nat), run d l = some e → fin d l = e
  | [], d, e, h => by
    have : d = e := Option.some.inj h
    rw [this]; rfl
  | c :: r, d, e, h => by
    unfold run at h
    rw [fin_cons]
    by_cases h1 : c = 40
    · rw [if_pos h1] at h
      have := run_fin r _ _ h
      unfold dst
      rw [if_pos h1]
      exact this
    · rw [if_neg h1] at h
      by_cases h2 : c = 41
      · rw [if_pos h2] at h
        cases d with
        | zero => cases h
        | succ j =>
          have := run_fin r _ _ h
          unfold dst
          rw [if_neg h1]
          have e : ((j + 1 : Nat) : Int) - 1 = j := by omega
          rw [e]; exact this
      · rw [if_neg h2] at h; cases h
/-- a run that goes through: brackets, no depth below nought -/
theorem run_iff (l : List Nat) : ∀ (d : Nat), Br l → ((∀ x ∈ dps d l, 0 ≤ x) ↔ ∃ e, run d l = some e) := by
  induction l with
  | nil =>
    intro d _
    constructor
    · intro _; exact ⟨d, rfl⟩
    · intro _ x hx
      have : x = (d : Int) := by simpa [dps, dpi, fin] using hx
      omega
  | cons c r ih =>
    intro d hb
    have hb' : Br r := fun x hx => hb x (List.mem_cons_of_mem _ hx)
    have hdp : dps d (c :: r) = (d : Int) :: dps (dst d c) r := rfl
    rw [hdp]
    rcases hb c (List.mem_cons_self ..) with h | h
    · subst h
      have e1 : dst (d : Int) 40 = ((d + 1 : Nat) : Int) := by unfold dst; rw [if_pos rfl]; omega
      have e2 : run d (40 :: r) = run (d + 1) r := rfl
      rw [e1, e2, ← ih (d + 1) hb']
      constructor
      · intro h x hx; exact h x (List.mem_cons_of_mem _ hx)
      · intro h x hx
        rcases List.mem_cons.mp hx with q | q
        · omega
        · exact h x q
    · subst h
      cases d with
      | zero =>
        have e2 : run 0 (41 :: r) = none := rfl
        rw [e2]
        constructor
        · intro h
          have hm : dst ((0 : Nat) : Int) 41 ∈ dps (dst ((0 : Nat) : Int) 41) r := by
            cases r with
            | nil => simp [dps, dpi, fin]
            | cons y s => simp [dps, dpi]
          have := h _ (List.mem_cons_of_mem _ hm)
          have e : dst ((0 : Nat) : Int) 41 = -1 := by decide
          rw [e] at this
          omega
        · rintro ⟨e, h⟩; cases h
      | succ j =>
        have e1 : dst ((j + 1 : Nat) : Int) 41 = (j : Int) := by unfold dst; rw [if_neg (by decide)]; omega
        have e2 : run (j + 1) (41 :: r) = run j r := rfl
        rw [e1, e2, ← ih j hb']
        constructor
        · intro h x hx; exact h x (List.mem_cons_of_mem _ hx)
        · intro h x hx
          rcases List.mem_cons.mp hx with q | q
          · omega
          · exact h x q
theorem isClosed_iff (l : List Nat) (hr : IsRow l) : isClosed l = true ↔ run 0 l = some 0 := by
  unfold isClosed
  rw [Bool.and_eq_true, Bool.and_eq_true, decide_eq_true_eq, decide_eq_true_eq, List.all_eq_true]
  constructor
  · rintro ⟨h1, h2, h3⟩
    have hb : Br l := fun c hc => by
      rcases hr c hc with q | q | q
      · exact .inl q
      · exact .inr q
      · subst q; exact absurd hc h1
    obtain ⟨e, he⟩ := (run_iff l 0 hb).mp fun x hx => of_decide_eq_true (h2 x hx)
    have := run_fin l 0 e he
    have e0 : (e : Int) = 0 := this.symm.trans h3
    have : e = 0 := by omega
    rw [he, this]
  · intro h
    have hb := run_br l 0 0 h
    refine ⟨fun hm => ?_, fun x hx => decide_eq_true ((run_iff l 0 hb).mpr ⟨0, h⟩ x hx), run_fin l 0 0 h⟩
    rcases hb 63 hm with q | q <;> cases q
end BR

set_option linter.all false
namespace BR
theorem fin_add : ∀ (l : List Nat) (d : Int), fin d l = d + fin 0 l
  | [], d => by show d = d + 0; omega
  | c :: r, d => by
    rw [fin_cons, fin_cons, fin_add r (dst d c), fin_add r (dst 0 c)]
    unfold dst
    split <;> omega
theorem fin_three (a b : List Nat) (c : Nat) : fin 0 (a ++ [c] ++ b) = fin 0 a + dst 0 c + fin 0 b := by
  rw [fin_app, fin_app, fin_add b, fin_add [c]]
  rfl
theorem run_even : ∀ (l : List Nat) (d e : Nat), run d l = some e → (d + l.length + e) % 2 = 0
  | [], d, e, h => by
    have : d = e := Option.some.inj h
    subst this
    simp; omega
  | c :: r, d, e, h => by
    by_cases h1 : c = 40
    · subst h1
      have := run_even r _ _ h
      simp only [List.length_cons]; omega
    · by_cases h2 : c = 41
      · subst h2
        cases d with
        | zero => cases h
        | succ k =>
          have := run_even r _ _ h
          simp only [List.length_cons]; omega
      · rw [run_no h1 h2] at h; cases h
theorem notClosed {l : List Nat} (hr : IsRow l) (h : run 0 l ≠ some 0) : isClosed l = false := by
  cases e : isClosed l with
  | false => rfl
  | true => exact absurd ((isClosed_iff l hr).mp e) h
theorem IsRow.append {a b : List Nat} (ha : IsRow a) (hb : IsRow b) : IsRow (a ++ b) := fun c hc => (List.mem_append.mp hc).elim (ha c) (hb c)
theorem IsRow.take {a : List Nat} (ha : IsRow a) (n : Nat) : IsRow (a.take n) := fun c hc => ha c (List.mem_of_mem_take hc)
theorem IsRow.drop {a : List Nat} (ha : IsRow a) (n : Nat) : IsRow (a.drop n) := fun c hc => ha c (List.mem_of_mem_drop hc)
theorem IsRow.one {c : Nat} (h : c = 40 ∨ c = 41 ∨ c = 63) : IsRow [c] := fun x hx => by
  have : x = c := by simpa using hx
  rw [this]; exact h
/-- one sign turned -/
theorem not_turned {l : List Nat} (h : run 0 l = some 0) {n c : Nat} (hc : l[n]? = some c) : isClosed (l.take n ++ [if c = 40 then 41 else 40] ++ l.drop (n + 1)) = false := by
  have hr := (run_br l 0 0 h).row
  refine notClosed (((hr.take n).append (.one (by split <;> simp))).append (hr.drop _)) fun q => ?_
  have e1 : fin 0 _ = 0 := run_fin _ 0 0 q
  have e2 : fin 0 _ = 0 := run_fin _ 0 0 h
  have hn := (List.getElem?_eq_some_iff.mp hc).1
  have el : l = l.take n ++ [c] ++ l.drop (n + 1) := by
    have e : l[n] = c := (List.getElem?_eq_some_iff.mp hc).2
    rw [List.append_assoc, List.singleton_append, ← e, ← List.drop_eq_getElem_cons hn, List.take_append_drop]
  rw [el] at e2
  rw [fin_three] at e1 e2
  unfold dst at e1 e2
  rcases run_br l 0 0 h c (List.mem_of_getElem? hc) with k | k
  · subst k; simp at e1 e2; omega
  · subst k; simp at e1 e2; omega
theorem not_rubbed (a b : List Nat) : isClosed (a ++ [63] ++ b) = false := by
  unfold isClosed
  have : decide (63 ∉ a ++ [63] ++ b) = false := by simp
  rw [this]; rfl
theorem not_tail {l : List Nat} (h : run 0 l = some 0) (hne : l ≠ []) : isClosed (l.drop 1) = false := by
  have hr := (run_br l 0 0 h).row
  refine notClosed (hr.drop 1) fun q => ?_
  have e1 := run_even _ _ _ q
  have e2 := run_even _ _ _ h
  have : 0 < l.length := List.length_pos_iff.mpr hne
  rw [List.length_drop] at e1
  omega
theorem not_wrong {l : List Nat} (hr : IsRow l) : isClosed ([41, 40] ++ l) = false :=
  notClosed (IsRow.append (fun c hc => by simp at hc; rcases hc with h | h <;> simp [h]) hr) fun q => by cases q
theorem run_two {a b : List Nat} (ha : run 0 a = some 0) (hb : run 0 b = some 0) : run 0 (a ++ b) = some 0 := by
  rw [run_app, ha]; exact hb
theorem run_eight {a : List Nat} (ha : run 0 a = some 0) : run 0 ([40, 40, 40, 40, 40, 40, 40, 40] ++ a ++ [41, 41, 41, 41, 41, 41, 41, 41]) = some 0 := by
  rw [run_app, run_app]
  have e : run 0 [40, 40, 40, 40, 40, 40, 40, 40] = some 8 := rfl
  have h := run_add a 0 0 8 ha
  rw [e]
  show ((run 8 a).bind _) = _
  rw [show (8 : Nat) = 0 + 8 from rfl, h]
  rfl
end BR

set_option linter.all false
namespace BR
/-- the depth ahead of place t -/
def Dp (l : List Nat) (t : Nat) : Int := fin 0 (l.take t)
theorem Dp_succ {l : List Nat} {i c : Nat} (h : l[i]? = some c) : Dp l (i + 1) = dst (Dp l i) c := by
  unfold Dp
  rw [List.take_add_one, h]
  show fin 0 (l.take i ++ [c]) = _
  rw [fin_snoc]
theorem run_take : ∀ (l : List Nat) (d e i : Nat), run d l = some e → ∃ m, run d (l.take i) = some m
  | l, d, e, i, h => by
    have h2 : run d (l.take i ++ l.drop i) = some e := by rw [List.take_append_drop]; exact h
    rw [run_app] at h2
    cases q : run d (l.take i) with
    | none => rw [q] at h2; cases h2
    | some m => exact ⟨m, rfl⟩
theorem Dp_nonneg {l : List Nat} (h : run 0 l = some 0) (t : Nat) : 0 ≤ Dp l t := by
  obtain ⟨m, hm⟩ := run_take l 0 0 t h
  have := run_fin _ _ _ hm
  unfold Dp
  rw [show (0 : Int) = ((0 : Nat) : Int) from rfl, this]
  omega
theorem Dp_end {l : List Nat} (h : run 0 l = some 0) : Dp l l.length = 0 := by
  unfold Dp
  rw [List.take_length]
  exact run_fin l 0 0 h
/-- a opens, b is its partner -/
def Pr (l : List Nat) (a b : Nat) : Prop := a < b ∧ Dp l (b + 1) = Dp l a ∧ ∀ t, a < t → t ≤ b → Dp l a < Dp l t
structure PI (l : List Nat) (i : Nat) (s : List Nat) (f : List Int) : Prop where
  len : f.length = l.length
  sl : (s.length : Int) = Dp l i
  st : ∀ (k x : Nat), s[k]? = some x → x < i ∧ Dp l x = k ∧ ∀ t, x < t → t ≤ i → (k : Int) < Dp l t
  mt : ∀ t, t < i → t ∉ s → ∃ u : Nat, u < i ∧ u ∉ s ∧ f[t]? = some (u : Int) ∧ f[u]? = some (t : Int) ∧ (Pr l t u ∨ Pr l u t)
theorem PI.start (l : List Nat) (f : List Int) (h : f.length = l.length) : PI l 0 [] f :=
  ⟨h, rfl, fun k x e => by simp at e, fun t ht => absurd ht (Nat.not_lt_zero _)⟩
theorem PI.openS {l : List Nat} {i : Nat} {s : List Nat} {f : List Int} (p : PI l i s f) (h : l[i]? = some 40) : PI l (i + 1) (s ++ [i]) f := by
  have e : Dp l (i + 1) = Dp l i + 1 := Dp_succ h
  refine ⟨p.len, ?_, fun k x hx => ?_, fun t ht hn => ?_⟩
  · rw [List.length_append, e, ← p.sl]; simp
  · by_cases hk : k < s.length
    · rw [List.getElem?_append_left hk] at hx
      obtain ⟨a, b, c⟩ := p.st k x hx
      refine ⟨by omega, b, fun t h1 h2 => ?_⟩
      by_cases q : t ≤ i
      · exact c t h1 q
      · have : t = i + 1 := by omega
        subst this
        have := p.sl
        omega
    · rw [List.getElem?_append_right (by omega)] at hx
      have hk2 : k - s.length = 0 := by
        cases q : k - s.length with
        | zero => rfl
        | succ n => rw [q] at hx; simp at hx
      rw [hk2] at hx
      have ex : i = x := Option.some.inj hx
      subst ex
      have := p.sl
      refine ⟨by omega, by omega, fun t h1 h2 => ?_⟩
      have : t = i + 1 := by omega
      subst this
      omega
  · have h1 : t ∉ s := fun q => hn (List.mem_append_left _ q)
    have h2 : t ≠ i := fun q => hn (List.mem_append_right _ (by simp [q]))
    obtain ⟨u, a, b, c, d, e'⟩ := p.mt t (by omega) h1
    refine ⟨u, by omega, fun q => ?_, c, d, e'⟩
    rcases List.mem_append.mp q with q | q
    · exact b q
    · have : u = i := by simpa using q
      omega
theorem PI.top {l : List Nat} {i c : Nat} {s : List Nat} {f : List Int} (p : PI l i s f) (hi : l[i]? = some c) (hc : c ≠ 40) (hr : run 0 l = some 0) :
    ∃ s' o, s = s' ++ [o] ∧ o < l.length ∧ o ≠ i := by
  have e : Dp l (i + 1) = Dp l i - 1 := by rw [Dp_succ hi]; unfold dst; rw [if_neg hc]
  have h0 := Dp_nonneg hr (i + 1)
  have hs := p.sl
  have hne : s ≠ [] := fun q => by rw [q] at hs; simp at hs; omega
  refine ⟨s.dropLast, s.getLast hne, (List.dropLast_concat_getLast hne).symm, ?_⟩
  have hl : s[s.length - 1]? = some (s.getLast hne) := by rw [← List.getLast?_eq_getElem?, List.getLast?_eq_getLast hne]
  obtain ⟨a, _, _⟩ := p.st _ _ hl
  have := (List.getElem?_eq_some_iff.mp hi).1
  exact ⟨by omega, by omega⟩
theorem PI.closeS {l : List Nat} {i c : Nat} {s : List Nat} {o : Nat} {f : List Int} (p : PI l i (s ++ [o]) f) (hi : l[i]? = some c) (hc : c ≠ 40) : PI l (i + 1) s ((f.set i (o : Int)).set o (i : Int)) := by
  have e : Dp l (i + 1) = Dp l i - 1 := by rw [Dp_succ hi]; unfold dst; rw [if_neg hc]
  have hil := (List.getElem?_eq_some_iff.mp hi).1
  have hs := p.sl
  rw [List.length_append] at hs
  have hs2 : (s.length : Int) + 1 = Dp l i := by simpa using hs
  obtain ⟨a, b, hab⟩ := p.st s.length o (by rw [List.getElem?_append_right (Nat.le_refl _), Nat.sub_self]; rfl)
  have hpr : Pr l o i := ⟨a, by omega, fun t h1 h2 => by have := hab t h1 h2; omega⟩
  have hst : ∀ (k x : Nat), s[k]? = some x → x < i ∧ Dp l x = k ∧ ∀ t, x < t → t ≤ i → (k : Int) < Dp l t := fun k x hx => p.st k x (by
    rw [List.getElem?_append_left (List.getElem?_eq_some_iff.mp hx).1]; exact hx)
  have os : o ∉ s := fun q => by
    obtain ⟨k, hk⟩ := List.mem_iff_getElem?.mp q
    have := (hst k o hk).2.1
    have := (List.getElem?_eq_some_iff.mp hk).1
    omega
  have is_ : i ∉ s := fun q => by
    obtain ⟨k, hk⟩ := List.mem_iff_getElem?.mp q
    have := (hst k i hk).1
    omega
  have hlen := p.len
  refine ⟨by simpa using p.len, by omega, fun k x hx => ?_, fun t ht hn => ?_⟩
  · obtain ⟨a1, b1, c1⟩ := hst k x hx
    have hk := (List.getElem?_eq_some_iff.mp hx).1
    refine ⟨by omega, b1, fun t h1 h2 => ?_⟩
    by_cases q : t ≤ i
    · exact c1 t h1 q
    · have : t = i + 1 := by omega
      subst this
      omega
  · by_cases h1 : t = i
    · subst h1
      refine ⟨o, by omega, os, ?_, ?_, .inr hpr⟩
      · rw [List.getElem?_set_ne (by omega), List.getElem?_set_self (by omega)]
      · rw [List.getElem?_set_self (by simp; omega)]
    · by_cases h2 : t = o
      · subst h2
        refine ⟨i, by omega, is_, ?_, ?_, .inl hpr⟩
        · rw [List.getElem?_set_self (by simp; omega)]
        · rw [List.getElem?_set_ne (by omega), List.getElem?_set_self (by omega)]
      · have h3 : t ∉ s ++ [o] := fun q => by
          rcases List.mem_append.mp q with q | q
          · exact hn q
          · exact h2 (by simpa using q)
        obtain ⟨u, u1, u2, u3, u4, u5⟩ := p.mt t (by omega) h3
        have u6 : u ≠ o := fun q => u2 (List.mem_append_right _ (by simp [q]))
        refine ⟨u, by omega, fun q => u2 (List.mem_append_left _ q), ?_, ?_, u5⟩
        · rw [List.getElem?_set_ne (by omega), List.getElem?_set_ne (by omega)]; exact u3
        · rw [List.getElem?_set_ne (by omega), List.getElem?_set_ne (by omega)]; exact u4
/-- the partners of a closed row -/
def PM (l : List Nat) (f : List Int) : Prop := f.length = l.length ∧ ∀ t, t < l.length → ∃ u : Nat, u < l.length ∧ f[t]? = some (u : Int) ∧ f[u]? = some (t : Int) ∧ (l[t]? = some 40 → Pr l t u)
theorem PI.done {l : List Nat} {s : List Nat} {f : List Int} (p : PI l l.length s f) (hr : run 0 l = some 0) : PM l f := by
  refine ⟨p.len, fun t ht => ?_⟩
  have hs := p.sl
  rw [Dp_end hr] at hs
  have hs : s = [] := List.length_eq_zero_iff.mp (by omega)
  subst hs
  obtain ⟨u, u1, _, u3, u4, u5⟩ := p.mt t ht (by simp)
  refine ⟨u, u1, u3, u4, fun h => ?_⟩
  rcases u5 with q | q
  · exact q
  · have e : Dp l (t + 1) = Dp l t + 1 := Dp_succ h
    have := q.2.1
    have := q.2.2 t q.1 (Nat.le_refl _)
    omega
end BR

set_option Elab.async false
set_option linter.all false
set_option maxRecDepth 100000
/-! Fillings of a row, by counting. -/
namespace BR
def fits (l t : List Nat) : Bool := (l.zip t).all fun p => decide (p.1 = 63 ∨ p.1 = p.2)
def isFilling (l t : List Nat) : Bool := decide (t.length = l.length) && (isClosed t && fits l t)
def fillE : Nat → List Nat → List Nat
  | _, [] => []
  | k, c :: r => (if c = 63 then (if 0 < k then 40 else 41) else c) :: fillE (if c = 63 then k - 1 else k) r
theorem fillE_len : ∀ (l : List Nat) (k : Nat), (fillE k l).length = l.length
  | [], _ => rfl
  | c :: r, k => by simp only [fillE, List.length_cons, fillE_len r]
theorem fillE_take : ∀ (l : List Nat) (k m : Nat), (fillE k l).take m = fillE k (l.take m)
  | [], _, m => by simp [fillE]
  | c :: r, k, 0 => rfl
  | c :: r, k, m + 1 => by simp only [fillE, List.take_succ_cons, fillE_take r]
theorem fillE_snoc : ∀ (l : List Nat) (k c : Nat), fillE k (l ++ [c]) = fillE k l ++ [if c = 63 then (if 0 < k - l.count 63 then 40 else 41) else c]
  | [], k, c => by
    show (if c = 63 then (if 0 < k then 40 else 41) else c) :: [] = [] ++ [if c = 63 then (if 0 < k - 0 then 40 else 41) else c]
    rfl
  | d :: r, k, c => by
    simp only [fillE, List.cons_append, fillE_snoc r, List.count_cons]
    by_cases h : d = 63
    · subst h
      simp only [if_true, beq_self_eq_true]
      rw [show k - 1 - List.count 63 r = k - (List.count 63 r + 1) by omega]
    · simp only [if_neg h]
      have hb : (d == 63) = false := beq_eq_false_iff_ne.mpr h
      simp [hb]
theorem fits_fillE : ∀ (l : List Nat) (k : Nat), fits l (fillE k l) = true
  | [], _ => rfl
  | c :: r, k => by
    have ih := fits_fillE r (if c = 63 then k - 1 else k)
    unfold fits at ih ⊢
    simp only [fillE, List.zip_cons_cons, List.all_cons, ih, Bool.and_true, decide_eq_true_eq]
    by_cases h : c = 63
    · exact .inl h
    · rw [if_neg h]; exact .inr rfl
theorem fillE_br : ∀ (l : List Nat) (k : Nat), IsRow l → Br (fillE k l)
  | [], _, _ => fun c hc => by cases hc
  | c :: r, k, h => fun x hx => by
    simp only [fillE, List.mem_cons] at hx
    rcases hx with hx | hx
    · by_cases hc : c = 63
      · rw [if_pos hc] at hx
        by_cases hk : 0 < k
        · rw [if_pos hk] at hx; exact .inl hx
        · rw [if_neg hk] at hx; exact .inr hx
      · rw [if_neg hc] at hx
        subst hx
        rcases h x List.mem_cons_self with e | e | e
        · exact .inl e
        · exact .inr e
        · exact absurd e hc
    · exact fillE_br r _ (fun y hy => h y (List.mem_cons_of_mem _ hy)) x hx
theorem count3 : ∀ (l : List Nat), IsRow l → l.count 40 + l.count 41 + l.count 63 = l.length
  | [], _ => rfl
  | c :: r, h => by
    have ih := count3 r fun y hy => h y (List.mem_cons_of_mem _ hy)
    simp only [List.count_cons, List.length_cons]
    rcases h c List.mem_cons_self with e | e | e <;> subst e <;> simp <;> omega
theorem fin_count : ∀ (l : List Nat), Br l → fin 0 l = (l.count 40 : Int) - (l.count 41 : Int)
  | [], _ => rfl
  | c :: r, h => by
    have ih := fin_count r fun y hy => h y (List.mem_cons_of_mem _ hy)
    rw [fin_cons, fin_add, ih]
    simp only [List.count_cons]
    rcases h c List.mem_cons_self with e | e <;> subst e <;> simp [dst] <;> omega
theorem cnt40 : ∀ (l : List Nat) (k : Nat), IsRow l → (fillE k l).count 40 = l.count 40 + min k (l.count 63)
  | [], k, _ => by simp [fillE]
  | c :: r, k, h => by
    have ih := fun j => cnt40 r j fun y hy => h y (List.mem_cons_of_mem _ hy)
    simp only [fillE, List.count_cons, ih]
    rcases h c List.mem_cons_self with e | e | e
    · subst e; simp; omega
    · subst e; simp
    · subst e
      by_cases hk : 0 < k
      · simp [hk]; omega
      · simp [hk]; omega
theorem fin_fillE {l : List Nat} (h : IsRow l) (k : Nat) : fin 0 (fillE k l) = 2 * ((l.count 40 : Int) + min (k : Int) (l.count 63)) - l.length := by
  have h1 := fin_count _ (fillE_br l k h)
  have h2 := cnt40 l k h
  have h3 := count3 (fillE k l) (fillE_br l k h).row
  have h4 : (fillE k l).count 63 = 0 := List.count_eq_zero.mpr fun hm => by rcases fillE_br l k h 63 hm with e | e <;> cases e
  have h5 := fillE_len l k
  omega
theorem isClosed_of {t : List Nat} (hb : Br t) (h0 : fin 0 t = 0) (h : ∀ m, m ≤ t.length → 0 ≤ fin 0 (t.take m)) : isClosed t = true := by
  unfold isClosed
  have n63 : 63 ∉ t := fun hm => by rcases hb 63 hm with e | e <;> cases e
  rw [decide_eq_true n63, decide_eq_true h0, Bool.true_and, Bool.and_true, List.all_eq_true]
  intro x hx
  obtain ⟨i, hi⟩ := List.getElem?_of_mem hx
  have hlt := (List.getElem?_eq_some_iff.mp hi).1
  rw [dps_len] at hlt
  rw [dps_get 0 t i (by omega)] at hi
  cases hi
  exact decide_eq_true (h i (by omega))
/-- where no beginning closes too much and no end opens too much, the earliest filling is one -/
theorem earliest_ok {l : List Nat} (h : IsRow l) (he : l.length % 2 = 0) (h1 : ∀ m, 1 ≤ m → m ≤ l.length → 2 * (l.take m).count 41 ≤ m) (h2 : ∀ m, 1 ≤ m → m ≤ l.length → 2 * (l.drop (l.length - m)).count 40 ≤ m) :
    2 * l.count 40 ≤ l.length ∧ isFilling l (fillE (l.length / 2 - l.count 40) l) = true := by
  have e1 : 2 * l.count 41 ≤ l.length := by
    by_cases hz : l.length = 0
    · have := count3 l h; omega
    · have := h1 l.length (by omega) (Nat.le_refl _); rwa [List.take_length] at this
  have e2 : 2 * l.count 40 ≤ l.length := by
    by_cases hz : l.length = 0
    · have := count3 l h; omega
    · have := h2 l.length (by omega) (Nat.le_refl _); rwa [Nat.sub_self, List.drop_zero] at this
  refine ⟨e2, ?_⟩
  have c3 := count3 l h
  unfold isFilling
  rw [fillE_len, decide_eq_true rfl, fits_fillE, Bool.true_and, Bool.and_true]
  refine isClosed_of (fillE_br l _ h) ?_ fun m hm => ?_
  · rw [fin_fillE h]; omega
  · rw [fillE_len] at hm
    rw [fillE_take, fin_fillE (h.take m), List.length_take]
    have c3m := count3 _ (h.take m)
    rw [List.length_take] at c3m
    have ca : (l.take m).count 40 + (l.drop m).count 40 = l.count 40 := by rw [← List.count_append, List.take_append_drop]
    have hd := h2 (l.length - m)
    rw [show l.length - (l.length - m) = m by omega] at hd
    have ht := h1 m
    have hdl : (l.drop m).count 40 ≤ l.length - m := by have := List.count_le_length (a := 40) (l := l.drop m); rwa [List.length_drop] at this
    by_cases hm0 : m = 0
    · subst hm0; simp; omega
    · have ht := ht (by omega) hm
      by_cases hq : (l.take m).count 63 ≤ l.length / 2 - l.count 40
      · omega
      · by_cases hmn : m = l.length
        · subst hmn; rw [List.take_length] at *; omega
        · have hd := hd (by omega) (by omega); omega
end BR
namespace BR
theorem run_le : ∀ (l : List Nat) (d e : Nat), run d l = some e → e ≤ d + l.length
  | [], d, e, h => by
    have h : some d = some e := h
    cases h
    exact Nat.le_refl _
  | c :: r, d, e, h => by
    by_cases h1 : c = 40
    · subst h1
      have := run_le r (d + 1) e h
      simp only [List.length_cons]; omega
    · by_cases h2 : c = 41
      · subst h2
        cases d with
        | zero => cases h
        | succ k =>
          have := run_le r k e h
          simp only [List.length_cons]; omega
      · rw [run_no h1 h2] at h; cases h
theorem run_more {a b : List Nat} (h : run 0 a = none) : run 0 (a ++ b) = none := by rw [run_app, h]; rfl
end BR

set_option Elab.async false
set_option linter.all false
set_option maxRecDepth 100000
set_option maxHeartbeats 4000000
/-! Rules for own instances of several classes; count over any flat items; text told backwards. -/
namespace L2
open PySem PySem.Spec PyProof.Rows
/-! ### xs.count(y), any flat items -/
def rCntV (K : PySem.W.Frag) : V → List V → Hp → VK → Prop := fun x xs H Q => ∃ p ys y, x = .ref p ∧ xs = [y] ∧ SqL K H p ys ∧ flatV y = true ∧ ys.all flatV = true ∧ Q (.int ((ys.countP fun z => eqV z y : Nat) : Int)) H
theorem count_eqU {x : V} : ∀ {xs : List V} {us : List Value}, Vals xs us → xs.all flatV = true → us.countP (eqU x) = xs.countP fun y => eqV y x
  | _, _, .nil, _ => rfl
  | y :: xs, u :: us, .cons r t, f => by
    rw [List.all_cons, Bool.and_eq_true] at f
    rw [List.countP_cons, List.countP_cons, eqU_of r f.1, count_eqU t f.2]
theorem mt_lcountV {X : Cx} : MtR X "list.count" (rCntV X.K) := by
  intro pins s σ H x xs v us Q I rx rxs h
  obtain ⟨p, ys, y, rfl, rfl, hs, fy, fs, q⟩ := h
  cases rx
  obtain ⟨u, rfl, ru⟩ := rxs.one
  obtain ⟨its, rv, ⟨⟨cls, dd, data, sl⟩, n, ho, hc, hdn, hd⟩, hlen⟩ := I.list hs
  simp only at hc hd
  subst hc hd
  refine call_meets PySem.F.slot_list_count ⟨_, ho, rfl⟩ PySem.F.entry_list_count (PySem.F.args_list_count_2 _ _)
    (SeqAt.list_countAt p its.toArray n dd sl u (eqU y)) ⟨ho, fun w hw => mem_eqAt ru fy rv fs w (by simpa using hw), ?_⟩
  refine ⟨.int ((ys.countP fun z => eqV z y : Nat) : Int), H, I.tok _, ⟨s.toks, ?_⟩, q⟩
  show Value.int ((its.toArray.toList.countP (eqU y) : Nat) : Int) s.toks = Value.int ((ys.countP (fun z => eqV z y) : Nat) : Int) s.toks
  rw [show its.toArray.toList = its by simp, count_eqU rv fs]
/-! ### text[::-1] -/
theorem pickS_rev (x : Str) : ((Builtin.Str.strSliceIndices none none (-1) x.length).filterMap (x.cps[·]?)).toArray = x.cps.reverse := by
  have h : Builtin.Str.strSliceIndices none none (-1) x.length = sliceRange ((x.cps.size : Int) - 1) (-1) (-1) := rfl
  rw [h, PySem.W.krv_sliceRange, PySem.W.krv_range, List.filterMap_reverse, PySem.W.krv_all]
  apply Array.ext'
  simp
def tRevS (te : TE) : TE := fun σ H Q => te σ H fun x H1 => ∃ z, x = .str z ∧ z.length ≤ sizeLine ∧ Q (.str ⟨z.cps.reverse⟩) H1
theorem pe_revS {X : Cx} {e : Expr} {te : TE} {k : Nat} {p1 p2 p3 pos : Pos} (he : PE X e te) : PE X (.Subscript e (.Slice none none (some (.UnaryOp .USub (.Constant (.int 1) k p1) p2)) p3) pos) (tRevS te) := by
  refine ⟨fun pins s σ H Q I h => ?_⟩
  refine Subscript_ (thn (he.run pins s σ H _ I h) fun v s1 ⟨x, H1, I1, r1, q1⟩ => ?_)
  obtain ⟨z, ex, hz, q⟩ := q1
  subst ex
  obtain ⟨t, rfl⟩ := r1
  have hst : PO X (some (.UnaryOp .USub (.Constant (.int 1) k p1) p2)) (tPart (tUn (rU fun i => .int (-i)) (tC (.int 1)))) := po_some (pe_un un_neg pe_int)
  refine wpAny_Slice (thn (po_none.run pins s1 σ H1 (fun o H2 => o = none ∧ H2 = H1) I1 ⟨rfl, rfl⟩) fun vl s2 ⟨l, H2, I2, pl, el, e2⟩ => ?_)
  subst el e2
  refine thn (po_none.run pins s2 σ H2 (fun o H3 => o = none ∧ H3 = H2) I2 ⟨rfl, rfl⟩) fun vu s3 ⟨u, H3, I3, pu, eu, e3⟩ => ?_
  subst eu e3
  refine thn (hst.run pins s3 σ H3 (fun o H4 => o = some (-1) ∧ H4 = H3) I3 ⟨1, rfl, -1, rfl, rfl, rfl⟩) fun vs s4 ⟨o, H4, I4, ps, eo, e4⟩ => ?_
  subst eo e4
  have I5 : Inv X pins σ H4 { s4 with heap := s4.heap.push { cls := .type "slice", data := .fields #[vl, vu, vs] } } := I4.kept (t' := s4.toks) fun b ob q => Heap.get?_push_of_some _ q
  obtain ⟨ll, rfl, el'⟩ := IsPart.raw pl
  obtain ⟨uu, rfl, eu'⟩ := IsPart.raw pu
  obtain ⟨ss, rfl, es'⟩ := IsPart.raw ps
  show wpAny (model X.prog X.w) X.A (subscriptTail e (.Slice none none (some (.UnaryOp .USub (.Constant (.int 1) k p1) p2)) p3) (.str z t) (.ref s4.heap.objs.size)) (EP X pins σ Q) X.xe _
  refine tail_any (ops := [.str z t, .ref s4.heap.objs.size]) (typeIs_str _ _ _) (PySem.F.slot_str_getitem.lookup) ?_ (by with_unfolding_all rfl)
  refine wpAny_getItem_str_slice (l := ll) (u := uu) (st := ss) ?_ (by rw [es']; rfl) ?_
  · exact ⟨_, Heap.get?_push_size _ rfl, rfl, rfl⟩
  unfold sliceMade slicePicked
  rw [el', eu', es', if_neg (fun z => by rw [Bool.and_eq_true] at z; exact absurd z.1 (by decide))]
  show Made.post (Made.str ⟨((Builtin.Str.strSliceIndices none none (-1) z.length).filterMap (z.cps[·]?)).toArray⟩) _ _
  rw [pickS_rev]
  exact ⟨by show z.cps.reverse.size ≤ sizeLine; rw [Array.size_reverse]; exact hz, .str _, H4, I5.tok _, ⟨_, rfl⟩, q⟩
/-! ### C() of a class without __init__ -/
structure Mk0 (K : PySem.W.Frag) (C : Addr) : Prop where
  makes : PySem.W.makesIn K C = true
  init : PySem.W.findIn K (.ref C) "__init__" = some (some (.builtin "object.__init__"))
  kp : PySem.W.keepIn K (.ref C) = true
def tMakeP (C : Addr) : TE := fun σ H Q => ∀ x dx, H x = none → H dx = none → dx ≠ x → Q (.ref x) (upd (upd H dx (.own x)) x (.ins C dx []))
theorem pe_makePlain {X : Cx} {C : Addr} {x : Str} {p pos : Pos} (M : Mk0 X.K C) (hg : Gl X x) (hm : X.mg x = some (.ref C)) (hdb : (x == ("__debug__" : Str)) = false := by decide) :
    PE X (.Call (.Name x p) [] [] pos) (tMakeP C) := by
  refine ⟨fun pins s σ H Q I h => ?_⟩
  refine wpAny_Call_Name_kw (ld_glob I hg hm ?_ hdb)
  refine PySem.W.callWith_K0 I.kIn M.kp ?_
  have hq := h (s.heap.objs.size + 1) s.heap.objs.size (I.hok.fresh (Nat.le_succ _)) (I.hok.fresh (Nat.le_refl _)) (Nat.ne_of_lt (Nat.lt_succ_self _))
  have I2 := Inv.made (C := C) I
  have Y := PySem.W.makes_of (M := model X.prog X.w) I.kIn M.makes
  have g1 : ((s.heap.push PySem.W.emptyDict).push (PySem.W.instObj C s.heap.objs.size)).get? (s.heap.objs.size + 1) = some (PySem.W.instObj C s.heap.objs.size) := by
    have := Heap.get?_push_size (s.heap.push PySem.W.emptyDict) (o := PySem.W.instObj C s.heap.objs.size) rfl
    rwa [Heap.size_push] at this
  obtain ⟨hh, g, d, t, os⟩ := s
  refine wpAny_call (PySem.W.make_core Y (PySem.W.looks_findIn I.kIn M.init) (fun self => PySem.W.Looks.of_pure (PySem.W.oi_bind self)) (.inr ⟨rfl, rfl⟩) ?_)
  have t1 : PySem.W.Looks (model X.prog X.w) ((hh.push PySem.W.emptyDict).push (PySem.W.instObj C hh.objs.size)) (typeOf (.ref (hh.objs.size + 1))) (.ref C) := (PySem.W.Looks.ld g1).andThen .now
  have t2 : PySem.W.Looks (model X.prog X.w) ((hh.push PySem.W.emptyDict).push (PySem.W.instObj C hh.objs.size)) (isInstance (.ref (hh.objs.size + 1)) (.type "object")) true := t1.andThen (Y.top.keeps fun b o e => Heap.get?_push_of_some _ (Heap.get?_push_of_some _ e))
  refine codeAny_call_builtin PySem.W.oi_plain PySem.W.entry_oi (@PySem.W.check_slot (model X.prog X.w) _ _ _ "object.__init__" "object" "__init__" (.ref (hh.objs.size + 1)) [] [] _ PySem.W.oi_kind PySem.W.oi_split t2 (PySem.W.oi_args (.ref (hh.objs.size + 1))) ?_)
  show wpAny _ _ (Builtin.«object.__init__» ⟨[Value.ref (hh.objs.size + 1)], []⟩) _ _ _
  rw [PySem.W.oi_run]
  exact wpAny_pure (And.intro rfl ⟨V.ref (hh.objs.size + 1), _, I2, rfl, hq⟩)
/-! ### o.m(..), o an instance of one of several classes -/
def HasM (P : Program) (w : World) (K : PySem.W.Frag) (mg : Str → Option Value) (base : Heap) (CX : CXT) (k : Nat) (m : Str) (C : Addr) (sp : Sp) : Prop :=
  ∃ (j : Nat) (f : Addr) (fd : FuncData) (ps : List Str), j ≤ k ∧ Cls K C ∧ Meth K C m f ∧ FnOk P w K mg base CX j f fd ps sp ∧ Binds K fd ps []
def tMethX (S : Addr → Sp → Prop) (m : Str) (E : XK) (ta : TE) (t : TA) : TE := fun σ H Q => ta σ H fun x H1 => ∃ a dx fs C sp, x = .ref a ∧ H1 a = some (.ins C dx fs) ∧ fs.lookup m = none ∧ S C sp ∧
  t σ H1 fun vs H2 => sp (x :: vs) H2 Q E
theorem pe_methX {X : Cx} {CX : CXT} {k : Nat} {m : Str} {E : XK} {o e : Expr} {es : List Expr} {ta : TE} {t : TA} {apos pos : Pos} {pl : Sem Bool} {S : Addr → Sp → Prop} (he : PE X o ta) (A : ∀ C sp, S C sp → HasM X.prog X.w X.K X.mg X.base CX k m C sp) (hr : Room k X.A) (hx : Passes CX X E) (ha : PA X (e :: es) t)
    (hst : starEach (e :: es) X.env = (false, eval e X.env) :: starEach es X.env := by rfl) (hpl : (backTo pos (starEach es X.env)).any (·.1) = false := by rfl)
    (ht : eval (.Call (.Attribute o m apos) (e :: es) [] pos) X.env = (do
      let ov ← eval o X.env
      standAt apos.atName
      let (f, first) ← holding [ov] (getMethod ov m pl)
      callWith pos f first (backTo pos (starEach (e :: es) X.env)) (backToKw pos (keywordEach [] X.env))) := by rfl) :
    PE X (.Call (.Attribute o m apos) (e :: es) [] pos) (tMethX S m E ta t) := by
  refine ⟨fun pins s σ H Q I h => ?_⟩
  refine PySem.W.methodCall_KW (pl := pl) (thn (he.run pins s σ H _ I h) fun u s1 ⟨x, H1, I1, rx, a, dx, fs, C, sp, ex, ea, l, hS, q⟩ => ?_) ht
  subst ex
  obtain rfl : u = Value.ref a := rx
  obtain ⟨j, f, fd, ps, hj, c, hm, F, hb⟩ := A C sp hS
  refine getmeth_ok I1 ea c hm l ?_
  refine PySem.W.callWith_K (first := [.ref a]) (h₀ := X.base) I.ok.mod.kin hm.kp (thn (ha.run pos pins s1 σ H1 _ I1 q) fun us s2 ⟨vs, H2, I2, r, q2⟩ => ⟨I2.kIn, ?_⟩) hst hpl
  have q3 : sp ((V.ref a :: vs) ++ []) H2 Q E := by rw [List.append_nil]; exact q2
  exact run_fn (us := .ref a :: us) (vs := .ref a :: vs) (dvs := []) (ds := []) F (hr.mono hj) hb .nil hx I2 (.cons rfl r) q3
/-! ### own classes -/
structure OwnC (K : PySem.W.Frag) (C : Addr) : Prop where
  cl : Cls K C
  ha : PySem.W.findIn K (.ref C) "__class__" = some (some (.builtin "object.__class__"))
  hn : PySem.W.specialIn K (.builtin "object.__class__") "__get__" = some (some (.builtin "getset_descriptor.__get__"))
  ht : PySem.W.takesIn K (.builtin "object.__class__") = some true
  hm : PySem.W.mroIn K C (.type "object") = some true
theorem OwnC.ty {K : PySem.W.Frag} {H : Hp} {a C dx : Addr} {fs : List (Str × V)} (o : OwnC K C) (h : H a = some (.ins C dx fs)) : TyX K H (.ref a) (.ref C) := .base (.ins h o.cl o.ha o.hn o.ht o.hm)
structure MethIn (K : PySem.W.Frag) (x q : Str) (st : Stmt) (ps : List Str) : Type where
  a : Addr
  fd : FuncData
  F : Fun K x q st a fd
  b : Binds K fd ps []
/-! ### comprehensions over zip(text, text), range(n) -/
section
variable {K : PySem.W.Frag} {te : TE} {vs : List Nat} {σ : St} {H1 : Hp} {D : Addr} {Qd : Hp → Prop}
theorem zip_pick (F : Nat → Nat → V) : ∀ (l t : List Nat), t.length = l.length → (List.range l.length).map (fun i => F (l.getD i 0) (t.getD i 0)) = (l.zip t).map fun p => F p.1 p.2 := by
  intro l t h
  apply List.ext_getElem
  · simp [h]
  · intro i h1 h2
    simp at h1 h2
    simp [List.getD, h1, h]
theorem lc_zipS {l t : List Nat} {i j : Nat} (F : Nat → Nat → V) (hD : H1 D = none) (hn : l.length ≤ 100000) (hlen : t.length = l.length) (hw : ∀ x y, wipe (((wipe σ vs).set i (some x)).set j (some y)) vs = wipe σ vs)
    (he : ∀ c d H', Same H1 H' → ∀ Q : VK, (∀ H4, Same H' H4 → Q (F c d) H4) → te (((wipe σ vs).set i (some (ch c))).set j (some (ch d))) H' Q)
    (hd : ∀ H, Same H1 H → H D = some (.lst ((l.zip t).map fun p => F p.1 p.2)) → Qd H) :
    CompOk (ItP (min (St_ l).cps.size (St_ t).cps.size) (pvZS (St_ l) (St_ t))) (gTup K 2 (gCons (gName i) (gCons (gName j) gNil))) tYes te vs σ H1 D Qd := by
  have hsz : min (St_ l).cps.size (St_ t).cps.size = l.length := by simp [hlen]
  refine lc_pure walk_pairs (fun k => F (l.getD k 0) (t.getD k 0)) hD (by rw [hsz]; exact hn) (fun _ _ => trivial) (fun k H x H' y => ?_) (fun k x H H' hk s y s' Q R q => ?_) (fun H s e => hd H s ?_)
  · obtain ⟨T, x1, x2, _, nT, rfl, _⟩ := y
    exact Same.new nT
  · obtain ⟨T, x1, x2, rfl, nT, rfl, ⟨c, hc, rfl⟩, d, hd', rfl⟩ := y
    have hc' : l[k]? = some c := by simpa using hc
    have hd'' : t[k]? = some d := by simpa using hd'
    refine g2 upd_same ⟨hw _ _, ?_⟩
    show (if true = true then te (((wipe σ vs).set i (some (ch c))).set j (some (ch d))) (upd H T (.tup [ch c, ch d])) Q else R (upd H T (.tup [ch c, ch d])))
    rw [if_pos rfl]
    refine he c d _ s' Q fun H4 s4 => ?_
    have := q H4 s4
    rw [show l.getD k 0 = c by rw [List.getD, hc']; rfl, show t.getD k 0 = d by rw [List.getD, hd'']; rfl] at this
    exact this
  · rw [hsz, zip_pick F l t hlen] at e
    exact e
theorem lc_rangeY {n j : Nat} (F : Nat → V) (hD : H1 D = none) (hn : n ≤ 100000) (hw : ∀ x, wipe ((wipe σ vs).set j (some x)) vs = wipe σ vs)
    (he : ∀ k H', k < n → Same H1 H' → ∀ Q : VK, (∀ H4, Same H' H4 → Q (F k) H4) → te ((wipe σ vs).set j (some (.int (k : Nat)))) H' Q)
    (hd : ∀ H, Same H1 H → H D = some (.lst ((List.range n).map F)) → Qd H) : CompOk (Itr 0 n) (gName j) tYes te vs σ H1 D Qd := by
  refine lc_pure walk_range F hD hn (fun _ _ => trivial) (fun i H x H' y => by rw [y.1]; exact Same.refl _) (fun k x H H' hk s y s' Q R q => ?_) hd
  obtain ⟨rfl, rfl⟩ := y
  show gName j (.int (0 + (k : Nat))) _ _ _
  rw [Int.zero_add]
  refine ⟨hw _, ?_⟩
  show (if true = true then te ((wipe σ vs).set j (some (.int (k : Nat)))) H' Q else R H')
  rw [if_pos rfl]
  exact he k _ hk s' Q q
end
theorem all_map_bl {α : Type} (f : α → Bool) (l : List α) : (l.map f).all id = l.all f := by rw [List.all_map]; rfl
/-! ### a list of signs beside an empty one -/
theorem canLay_chs : ∀ a : List Nat, BR.IsRow a → PyData.canLayAll0 (a.map fun c => PyData.str ⟨#[c]⟩) = true
  | [], _ => rfl
  | x :: a, h => by
    show (PyData.canLay0 (.str ⟨#[x]⟩) && PyData.canLayAll0 (a.map fun c => PyData.str ⟨#[c]⟩)) = true
    rw [canLay_chs a fun y hy => h y (List.mem_cons_of_mem _ hy), Bool.and_true]
    rcases h x List.mem_cons_self with e | e | e <;> subst e <;> simp [PyData.canLay0, PyData.strOk]
theorem depth_chs : ∀ a : List Nat, PyData.depthAll (a.map fun c => PyData.str ⟨#[c]⟩) = 0
  | [] => rfl
  | x :: a => by
    show max (PyData.depth (.str ⟨#[x]⟩)) (PyData.depthAll (a.map fun c => PyData.str ⟨#[c]⟩)) = 0
    rw [depth_chs a]; rfl
theorem dp_chs {K : PySem.W.Frag} {H : Hp} : ∀ a : List Nat, DpAll K H (a.map ch) (a.map fun c => PyData.str ⟨#[c]⟩)
  | [] => .nil
  | x :: a => .cons (.str _) (dp_chs a)
theorem rd_neNil {K : PySem.W.Frag} {H : Hp} {Q : VK} {p q : Addr} {a : List Nat} (hr : BR.IsRow a) (h1 : SqL K H p (a.map ch)) (h2 : SqL K H q []) (k : Q (.bl (!decide (a = []))) H) : rNeD K (.ref p) (.ref q) H Q := by
  refine ⟨_, _, .lst h1 (dp_chs a), .lst h2 .nil, ?_, rfl, ?_⟩
  · unfold SeqAt.shaped
    have h1 : PyData.canLay0 (.list (a.map fun c => PyData.str ⟨#[c]⟩)) = true := canLay_chs a hr
    have h2 : PyData.depth (.list (a.map fun c => PyData.str ⟨#[c]⟩)) = 1 := by
      show PyData.depthAll (a.map fun c => PyData.str ⟨#[c]⟩) + 1 = 1
      rw [depth_chs]
    rw [h1, h2]; rfl
  · have e : PyData.eqv (.list (a.map fun c => PyData.str ⟨#[c]⟩)) (.list []) = decide (a = []) := by
      rw [PyData.eqv]
      cases a <;> rfl
    rw [e]
    exact k
def pick3 (z : Int) : Nat := if z = 0 then 40 else if z = 1 then 41 else 63
theorem at3 (z : Int) : atI (Str.ofString "()?").cps.toList (z % 3) = some (pick3 (z % 3)) := by
  have h0 := Int.emod_nonneg z (show (3 : Int) ≠ 0 by decide)
  have h1 := Int.emod_lt_of_pos z (show (0 : Int) < 3 by decide)
  obtain h | h | h : z % 3 = 0 ∨ z % 3 = 1 ∨ z % 3 = 2 := by omega
  all_goals
    rw [h]
    decide +kernel
theorem pick3_row (z : Int) : pick3 z = 40 ∨ pick3 z = 41 ∨ pick3 z = 63 := by 
  unfold pick3
  by_cases h : z = 0
  · rw [if_pos h]; exact .inl rfl
  · rw [if_neg h]
    by_cases h1 : z = 1
    · rw [if_pos h1]; exact .inr (.inl rfl)
    · rw [if_neg h1]; exact .inr (.inr rfl)
theorem at2 (z : Int) : atI (Str.ofString "()").cps.toList (z % 2) = some (if z % 2 = 0 then 40 else 41) := by
  have h0 := Int.emod_nonneg z (show (2 : Int) ≠ 0 by decide)
  have h1 := Int.emod_lt_of_pos z (show (0 : Int) < 2 by decide)
  obtain h | h : z % 2 = 0 ∨ z % 2 = 1 := by omega
  all_goals
    rw [h]
    decide +kernel
theorem next_seq {t u : TS} {D E : Ends} {σ : St} {H : Hp} (e : D.nx = tSeq t u E) (h : tSeq t u E σ H) : tNext D σ H := by
  show D.nx σ H
  rw [e]
  exact h
theorem next_cut {t u : TS} {D E : Ends} {σ : St} {H : Hp} (e : D.nx = tCut2 t u E) (h : tCut2 t u E σ H) : tNext D σ H := by
  show D.nx σ H
  rw [e]
  exact h
section
variable {K : PySem.W.Frag} {t : TA} {g : TG} {tb rest : TS} {D : Ends} {σ : St} {H : Hp}
theorem sq_for_lst (h : t σ H fun xs H1 => xs.length ≤ sizeLine ∧ ∀ p, H1 p = none → ∃ a, V.ref p = .ref a ∧ (∃ ys, SqL K (upd H1 p (.lst xs)) a ys) ∧ LoopOk (Itl K a) g tb { D with nx := rest D } σ (upd H1 p (.lst xs))) :
    tSeq (tFor (iList K (tLst t)) g tb) rest D σ H := h
theorem l_for_lst (h : t σ H fun xs H1 => xs.length ≤ sizeLine ∧ ∀ p, H1 p = none → ∃ a, V.ref p = .ref a ∧ (∃ ys, SqL K (upd H1 p (.lst xs)) a ys) ∧ LoopOk (Itl K a) g tb D σ (upd H1 p (.lst xs))) :
    tFor (iList K (tLst t)) g tb D σ H := h
end
theorem St_rev (l : List Nat) : (⟨(St_ l).cps.reverse⟩ : Str) = St_ l.reverse := by
  show (⟨_⟩ : Str) = ⟨_⟩
  congr 1
  apply Array.ext'
  simp
theorem mul_row {l : List Nat} (h : BR.IsRow l) : ∀ n : Nat, BR.IsRow (List.replicate n l).flatten ∧ (List.replicate n l).flatten.length = n * l.length
  | 0 => ⟨fun c hc => by simp at hc, by simp⟩
  | n + 1 => by
    obtain ⟨h1, h2⟩ := mul_row h n
    rw [List.replicate_succ, List.flatten_cons]
    refine ⟨h.append h1, ?_⟩
    rw [List.length_append, h2, Nat.succ_mul]
    omega
theorem next_is {t : TS} {E : Ends} {r : V → Hp → Prop} {b c : St → Hp → Prop} {σ : St} {H : Hp} (h : t E σ H) : tNext { nx := t E, rt := r, bk := b, ct := c } σ H := h
end L2

set_option Elab.async false
set_option linter.all false
set_option maxRecDepth 100000
set_option maxHeartbeats 4000000
namespace HT
open PySem PySem.Spec PyProof.Rows L2 BR
def topS (i : Nat) : Stmt := PySem.Challenge.pw_halftold_k01_whole_filled.main.body.getD i (.Pass ⟨0, 0, 0, 0⟩)
abbrev sAskedRow : Stmt := topS 4
abbrev sDepthsOf : Stmt := topS 5
abbrev sIsClosed : Stmt := topS 6
abbrev sIsFilling : Stmt := topS 7
abbrev sEarliest : Stmt := topS 16
abbrev sFilled : Stmt := topS 17
abbrev sLawRow : Stmt := topS 19
abbrev sLawClosed : Stmt := topS 20
abbrev sLawFilling : Stmt := topS 21
abbrev sLawDue : Stmt := topS 22
abbrev sLaw : Stmt := topS 23
abbrev sInitFilled : Stmt := inClass (topS 10) 0
abbrev sShowsFilled : Stmt := inClass (topS 10) 1
abbrev sShowsUneven : Stmt := inClass (topS 11) 0
abbrev sInitEarly : Stmt := inClass (topS 12) 0
abbrev sShowsEarly : Stmt := inClass (topS 12) 1
abbrev sInitLate : Stmt := inClass (topS 13) 0
abbrev sShowsLate : Stmt := inClass (topS 13) 1
abbrev sInitCheapest : Stmt := inClass (topS 14) 0
abbrev sShowsCheapest : Stmt := inClass (topS 14) 1
theorem scAskedRow : FnScope ["row"] ["row"] (defScope sAskedRow) := ⟨rfl, rfl, rfl, by decide +kernel, rfl, by decide +kernel, by decide +kernel⟩
theorem scDepthsOf : FnScope ["text", "found", "sign"] ["text"] (defScope sDepthsOf) := ⟨rfl, rfl, rfl, by decide +kernel, rfl, by decide +kernel, by decide +kernel⟩
theorem scIsClosed : FnScope ["text", "told"] ["text"] (defScope sIsClosed) := ⟨rfl, rfl, rfl, by decide +kernel, rfl, by decide +kernel, by decide +kernel⟩
theorem scIsFilling : FnScope ["row", "text", "told", "sign"] ["row", "text"] (defScope sIsFilling) := ⟨rfl, rfl, rfl, by decide +kernel, rfl, by decide +kernel, by decide +kernel⟩
theorem scEarliest : FnScope ["row", "left", "found", "sign"] ["row"] (defScope sEarliest) := ⟨rfl, rfl, rfl, by decide +kernel, rfl, by decide +kernel, by decide +kernel⟩
theorem scFilled : FnScope ["row", "many"] ["row"] (defScope sFilled) := ⟨rfl, rfl, rfl, by decide +kernel, rfl, by decide +kernel, by decide +kernel⟩
theorem scLawRow : FnScope ["_law_script", "_law_kind", "_law_cell", "_law_many", "_law_signs", "_law_depth", "_law_at", "_law_opens", "_law_sign"] ["_law_script"] (defScope sLawRow) := ⟨rfl, rfl, rfl, by decide +kernel, rfl, by decide +kernel, by decide +kernel⟩
theorem scLawClosed : FnScope ["_law_text", "_law_depth", "_law_sign"] ["_law_text"] (defScope sLawClosed) := ⟨rfl, rfl, rfl, by decide +kernel, rfl, by decide +kernel, by decide +kernel⟩
theorem scLawFilling : FnScope ["_law_row_here", "_law_text", "_law_at"] ["_law_row_here", "_law_text"] (defScope sLawFilling) := ⟨rfl, rfl, rfl, by decide +kernel, rfl, by decide +kernel, by decide +kernel⟩
theorem scLawDue : FnScope ["_law_row_here", "_law_found"] ["_law_row_here", "_law_found"] (defScope sLawDue) := ⟨rfl, rfl, rfl, by decide +kernel, rfl, by decide +kernel, by decide +kernel⟩
theorem scLaw : FnScope ["_law_script", "_law_row_here", "_law_some", "_law_found", "_law_kinds", "_law_other", "_law_said"] ["_law_script"] (defScope sLaw) := ⟨rfl, rfl, rfl, by decide +kernel, rfl, by decide +kernel, by decide +kernel⟩
theorem scInitFilled : FnScope ["self", "text"] ["self", "text"] (defScope sInitFilled) := ⟨rfl, rfl, rfl, by decide +kernel, rfl, by decide +kernel, by decide +kernel⟩
theorem scShowsFilled : FnScope ["self", "row"] ["self", "row"] (defScope sShowsFilled) := ⟨rfl, rfl, rfl, by decide +kernel, rfl, by decide +kernel, by decide +kernel⟩
theorem scShowsUneven : FnScope ["self", "row"] ["self", "row"] (defScope sShowsUneven) := ⟨rfl, rfl, rfl, by decide +kernel, rfl, by decide +kernel, by decide +kernel⟩
theorem scInitEarly : FnScope ["self", "many"] ["self", "many"] (defScope sInitEarly) := ⟨rfl, rfl, rfl, by decide +kernel, rfl, by decide +kernel, by decide +kernel⟩
theorem scShowsEarly : FnScope ["self", "row"] ["self", "row"] (defScope sShowsEarly) := ⟨rfl, rfl, rfl, by decide +kernel, rfl, by decide +kernel, by decide +kernel⟩
theorem scInitLate : FnScope ["self", "many"] ["self", "many"] (defScope sInitLate) := ⟨rfl, rfl, rfl, by decide +kernel, rfl, by decide +kernel, by decide +kernel⟩
theorem scShowsLate : FnScope ["self", "row"] ["self", "row"] (defScope sShowsLate) := ⟨rfl, rfl, rfl, by decide +kernel, rfl, by decide +kernel, by decide +kernel⟩
theorem scInitCheapest : FnScope ["self", "text", "levels"] ["self", "text", "levels"] (defScope sInitCheapest) := ⟨rfl, rfl, rfl, by decide +kernel, rfl, by decide +kernel, by decide +kernel⟩
theorem scShowsCheapest : FnScope ["self", "row", "prices", "told", "rubbed", "place", "level", "more"] ["self", "row", "prices"] (defScope sShowsCheapest) := ⟨rfl, rfl, rfl, by decide +kernel, rfl, by decide +kernel, by decide +kernel⟩
structure Txt (K : PySem.W.Frag) (mg : Str → Option Value) : Type where
  n_ValueError : mg "ValueError" = none
  n_all : mg "all" = none
  n_bool : mg "bool" = none
  n_enumerate : mg "enumerate" = none
  n_int : mg "int" = none
  n_isinstance : mg "isinstance" = none
  n_len : mg "len" = none
  n_list : mg "list" = none
  n_min : mg "min" = none
  n_range : mg "range" = none
  n_str : mg "str" = none
  n_sum : mg "sum" = none
  n_zip : mg "zip" = none
  f_asked_row : DefIn K mg "asked_row" "asked_row" sAskedRow ["row"]
  f_depths_of : DefIn K mg "depths_of" "depths_of" sDepthsOf ["text"]
  f_is_closed : DefIn K mg "is_closed" "is_closed" sIsClosed ["text"]
  f_is_filling : DefIn K mg "is_filling" "is_filling" sIsFilling ["row", "text"]
  f_earliest : DefIn K mg "earliest" "earliest" sEarliest ["row"]
  f_filled : DefIn K mg "filled" "filled" sFilled ["row"]
  f__law_row : DefIn K mg "_law_row" "_law_row" sLawRow ["_law_script"]
  f__law_closed : DefIn K mg "_law_closed" "_law_closed" sLawClosed ["_law_text"]
  f__law_filling : DefIn K mg "_law_filling" "_law_filling" sLawFilling ["_law_row_here", "_law_text"]
  f__law_due : DefIn K mg "_law_due" "_law_due" sLawDue ["_law_row_here", "_law_found"]
  c_Answer : Addr
  g_Answer : mg "Answer" = some (.ref c_Answer)
  o_Answer : OwnC K c_Answer
  na_Answer_text : NoAttr K c_Answer "text"
  na_Answer_many : NoAttr K c_Answer "many"
  na_Answer_levels : NoAttr K c_Answer "levels"
  pl_Answer : Mk0 K c_Answer
  c_Filled : Addr
  g_Filled : mg "Filled" = some (.ref c_Filled)
  o_Filled : OwnC K c_Filled
  na_Filled_text : NoAttr K c_Filled "text"
  na_Filled_many : NoAttr K c_Filled "many"
  na_Filled_levels : NoAttr K c_Filled "levels"
  i_Filled : MethIn K "__init__" "Filled.__init__" sInitFilled ["self", "text"]
  m_Filled : MethIn K "shows" "Filled.shows" sShowsFilled ["self", "row"]
  mk_Filled : Mk K c_Filled i_Filled.a
  me_Filled : Meth K c_Filled "shows" m_Filled.a
  c_Uneven : Addr
  g_Uneven : mg "Uneven" = some (.ref c_Uneven)
  o_Uneven : OwnC K c_Uneven
  na_Uneven_text : NoAttr K c_Uneven "text"
  na_Uneven_many : NoAttr K c_Uneven "many"
  na_Uneven_levels : NoAttr K c_Uneven "levels"
  m_Uneven : MethIn K "shows" "Uneven.shows" sShowsUneven ["self", "row"]
  pl_Uneven : Mk0 K c_Uneven
  me_Uneven : Meth K c_Uneven "shows" m_Uneven.a
  c_Early : Addr
  g_Early : mg "Early" = some (.ref c_Early)
  o_Early : OwnC K c_Early
  na_Early_text : NoAttr K c_Early "text"
  na_Early_many : NoAttr K c_Early "many"
  na_Early_levels : NoAttr K c_Early "levels"
  i_Early : MethIn K "__init__" "Early.__init__" sInitEarly ["self", "many"]
  m_Early : MethIn K "shows" "Early.shows" sShowsEarly ["self", "row"]
  mk_Early : Mk K c_Early i_Early.a
  me_Early : Meth K c_Early "shows" m_Early.a
  c_Late : Addr
  g_Late : mg "Late" = some (.ref c_Late)
  o_Late : OwnC K c_Late
  na_Late_text : NoAttr K c_Late "text"
  na_Late_many : NoAttr K c_Late "many"
  na_Late_levels : NoAttr K c_Late "levels"
  i_Late : MethIn K "__init__" "Late.__init__" sInitLate ["self", "many"]
  m_Late : MethIn K "shows" "Late.shows" sShowsLate ["self", "row"]
  mk_Late : Mk K c_Late i_Late.a
  me_Late : Meth K c_Late "shows" m_Late.a
  c_Cheapest : Addr
  g_Cheapest : mg "Cheapest" = some (.ref c_Cheapest)
  o_Cheapest : OwnC K c_Cheapest
  na_Cheapest_text : NoAttr K c_Cheapest "text"
  na_Cheapest_many : NoAttr K c_Cheapest "many"
  na_Cheapest_levels : NoAttr K c_Cheapest "levels"
  i_Cheapest : MethIn K "__init__" "Cheapest.__init__" sInitCheapest ["self", "text", "levels"]
  m_Cheapest : MethIn K "shows" "Cheapest.shows" sShowsCheapest ["self", "row", "prices"]
  mk_Cheapest : Mk K c_Cheapest i_Cheapest.a
  me_Cheapest : Meth K c_Cheapest "shows" m_Cheapest.a
  ke_Answer_Answer : PySem.W.kitOne K (.ref c_Answer) (.ref c_Answer) = some true
  ke_Answer_Filled : PySem.W.kitOne K (.ref c_Answer) (.ref c_Filled) = some false
  ke_Answer_Uneven : PySem.W.kitOne K (.ref c_Answer) (.ref c_Uneven) = some false
  ke_Answer_Early : PySem.W.kitOne K (.ref c_Answer) (.ref c_Early) = some false
  ke_Answer_Late : PySem.W.kitOne K (.ref c_Answer) (.ref c_Late) = some false
  ke_Answer_Cheapest : PySem.W.kitOne K (.ref c_Answer) (.ref c_Cheapest) = some false
  ke_Filled_Answer : PySem.W.kitOne K (.ref c_Filled) (.ref c_Answer) = some true
  ke_Filled_Filled : PySem.W.kitOne K (.ref c_Filled) (.ref c_Filled) = some true
  ke_Filled_Uneven : PySem.W.kitOne K (.ref c_Filled) (.ref c_Uneven) = some false
  ke_Filled_Early : PySem.W.kitOne K (.ref c_Filled) (.ref c_Early) = some false
  ke_Filled_Late : PySem.W.kitOne K (.ref c_Filled) (.ref c_Late) = some false
  ke_Filled_Cheapest : PySem.W.kitOne K (.ref c_Filled) (.ref c_Cheapest) = some false
  ke_Uneven_Answer : PySem.W.kitOne K (.ref c_Uneven) (.ref c_Answer) = some true
  ke_Uneven_Filled : PySem.W.kitOne K (.ref c_Uneven) (.ref c_Filled) = some false
  ke_Uneven_Uneven : PySem.W.kitOne K (.ref c_Uneven) (.ref c_Uneven) = some true
  ke_Uneven_Early : PySem.W.kitOne K (.ref c_Uneven) (.ref c_Early) = some false
  ke_Uneven_Late : PySem.W.kitOne K (.ref c_Uneven) (.ref c_Late) = some false
  ke_Uneven_Cheapest : PySem.W.kitOne K (.ref c_Uneven) (.ref c_Cheapest) = some false
  ke_Early_Answer : PySem.W.kitOne K (.ref c_Early) (.ref c_Answer) = some true
  ke_Early_Filled : PySem.W.kitOne K (.ref c_Early) (.ref c_Filled) = some false
  ke_Early_Uneven : PySem.W.kitOne K (.ref c_Early) (.ref c_Uneven) = some false
  ke_Early_Early : PySem.W.kitOne K (.ref c_Early) (.ref c_Early) = some true
  ke_Early_Late : PySem.W.kitOne K (.ref c_Early) (.ref c_Late) = some false
  ke_Early_Cheapest : PySem.W.kitOne K (.ref c_Early) (.ref c_Cheapest) = some false
  ke_Late_Answer : PySem.W.kitOne K (.ref c_Late) (.ref c_Answer) = some true
  ke_Late_Filled : PySem.W.kitOne K (.ref c_Late) (.ref c_Filled) = some false
  ke_Late_Uneven : PySem.W.kitOne K (.ref c_Late) (.ref c_Uneven) = some false
  ke_Late_Early : PySem.W.kitOne K (.ref c_Late) (.ref c_Early) = some false
  ke_Late_Late : PySem.W.kitOne K (.ref c_Late) (.ref c_Late) = some true
  ke_Late_Cheapest : PySem.W.kitOne K (.ref c_Late) (.ref c_Cheapest) = some false
  ke_Cheapest_Answer : PySem.W.kitOne K (.ref c_Cheapest) (.ref c_Answer) = some true
  ke_Cheapest_Filled : PySem.W.kitOne K (.ref c_Cheapest) (.ref c_Filled) = some false
  ke_Cheapest_Uneven : PySem.W.kitOne K (.ref c_Cheapest) (.ref c_Uneven) = some false
  ke_Cheapest_Early : PySem.W.kitOne K (.ref c_Cheapest) (.ref c_Early) = some false
  ke_Cheapest_Late : PySem.W.kitOne K (.ref c_Cheapest) (.ref c_Late) = some false
  ke_Cheapest_Cheapest : PySem.W.kitOne K (.ref c_Cheapest) (.ref c_Cheapest) = some true
  c_BracketError : Addr
  g_BracketError : mg "BracketError" = some (.ref c_BracketError)
  x_BracketError : PySem.W.excIn K c_BracketError [.type "ValueError", .type "Exception", .type "BaseException", .type "object"] "ValueError.__new__" = true
  k_BracketError : PySem.W.keepIn K (.ref c_BracketError) = true
  b_BracketError : PySem.W.subIn K (.ref c_BracketError) (.type "BaseException") = some true
  t_BracketError : PySem.W.typeIn K (.ref c_BracketError) = some (.type "type")
  c_BadRow : Addr
  g_BadRow : mg "BadRow" = some (.ref c_BadRow)
  x_BadRow : PySem.W.excIn K c_BadRow [.type "ValueError", .type "Exception", .type "BaseException", .type "object"] "ValueError.__new__" = true
  k_BadRow : PySem.W.keepIn K (.ref c_BadRow) = true
  b_BadRow : PySem.W.subIn K (.ref c_BadRow) (.type "BaseException") = some true
  t_BadRow : PySem.W.typeIn K (.ref c_BadRow) = some (.type "type")
local macro_rules | `(tactic| walk_at "sq") => `(tactic| first | exact SqL.of (by assumption) | exact SqL.of upd_same | exact SqT.of (by assumption) | exact SqT.of upd_same | assumption | exact Same.seq (by assumption) (by assumption) | exact Same.seq (Same.trans (by assumption) (by assumption)) (by assumption))
local macro_rules | `(tactic| walk_at "len") => `(tactic| (simp only [List.length_append, List.length_map, List.length_cons, List.length_nil, List.length_set, List.length_replicate, List.length_take, List.length_drop, List.length_reverse, List.length_range, dpi_len, dps_len, len_S]; omega))
local macro_rules | `(tactic| walk_at "g1") => `(tactic| first
  | refine ⟨_, rfl, ?_⟩
  | refine ⟨rfl, ?_⟩
  | refine ⟨_, _, rfl, rfl, @id.{0} _ (by first | decide | omega | exact ⟨by decide, by decide⟩ | exact .inr ⟨by decide, by decide⟩ | (show (0 : Int) < _; decide)), ?_⟩
  | refine ⟨_, _, rfl, rfl, ?_⟩
  | refine ⟨_, _, _, _, rfl, rfl, (by walk_at "sq"), (by first | exact atI_last _ _ | (with_reducible exact atI_nat (by assumption))), ?_⟩
  | refine ⟨.inl ⟨rfl, _, (by walk_at "sq")⟩, ?_⟩
  | refine ⟨_, _, rfl, (by first | exact .inl (by walk_at "sq") | exact .inr (by walk_at "sq")), ?_⟩
  | refine ⟨_, rfl, (by first | exact sz5 (by walk_at "len") | exact szS (by omega)), ?_⟩
  | refine ⟨_, _, _, rfl, rfl, (by assumption), sz5l (by walk_at "len"), ?_⟩)
local macro_rules | `(tactic| walk_at "go") => `(tactic| repeat walk_at "g1")
local macro_rules | `(tactic| walk_at "nxt") => `(tactic| (show tSeq Ends.nx _ _ _ _; refine nx_in ?_))

section
variable {P : Program} {w : World} {K : PySem.W.Frag} {mg : Str → Option Value} {base : Heap}
def spDepthsOf (T : Txt K mg) : Sp := fun vs H Q _ => ∃ l, vs = [S l] ∧ l.length ≤ 90000 ∧ ∀ H' p, Same H H' → H p = none → H' p = some (.lst ((dps 0 l).map V.int)) → Q (.ref p) H'
theorem okDepthsOf (T : Txt K mg) : FnOk P w K mg base CX0 1 T.f_depths_of.a T.f_depths_of.fd ["text"] (spDepthsOf T) := by
  refine T.f_depths_of.F.ok scDepthsOf (fun vs H Q E h => ?_) (fun cdv A outer s H vs Q E hr h => ?_)
  · obtain ⟨l, rfl, _⟩ := h
    rfl
  · obtain ⟨l, rfl, hl, q⟩ := h
    refine ⟨_, (pss_cons (ps_set (i := 1) scDepthsOf.nd rfl (by first | exact Or.inl rfl | exact Or.inr rfl) (pe_lst (pa_cons pe_int pa_nil)))
      (pss_cons (ps_for PassesOwn.never rfl (pi_str (pv 0)) (pg_name (i := 2) scDepthsOf.nd rfl (by first | exact Or.inl rfl | exact Or.inr rfl))
      (pss_one (ps_if (pt_cmpR op_eq (pv 2) pe_str (nomark _)) (pss_one (ps_expr (pe_bm PySem.F.plainAttrs_list PySem.F.slot_list_append PySem.F.type_list_append mt_append (pv 1) (pa_cons (pe_op op_add (pe_ix ix_list (pv 1) (pe_un un_neg pe_int) (fun _ _ => rfl)) pe_int) pa_nil))))
      (pss_one (ps_expr (pe_bm PySem.F.plainAttrs_list PySem.F.slot_list_append PySem.F.type_list_append mt_append (pv 1) (pa_cons (pe_op op_sub (pe_ix ix_list (pv 1) (pe_un un_neg pe_int) (fun _ _ => rfl)) pe_int) pa_nil)))))))
      (pss_one (ps_ret (pv 1))))), ?_⟩
    refine ⟨sz5 (by decide), fun o no => ?_⟩
    refine ⟨_, rfl, _, rfl, for_txt (fun p σ H' => ∃ x, σ = [some (S l), some (.ref o), x] ∧ Same H H' ∧ H' o = some (.lst ((dps 0 p).map V.int)) ∧ p.length ≤ l.length) ⟨none, rfl, Same.new no, upd_same, Nat.zero_le _⟩ ?_ ?_⟩
    · rintro p c r σ H' e ⟨x, rfl, sm, ho, hp⟩
      have hlen : p.length + 1 ≤ l.length := by rw [e]; simp
      rw [show dps 0 p = dpi 0 p ++ [fin 0 p] from rfl, List.map_append] at ho
      refine ⟨_, rfl, rfl, _, rfl, ite2 (fun hc => ?_) (fun hc => ?_)⟩
      all_goals
        rw [d_op, decide_eq_true_eq] at hc
        walk_at "go"
        refine ⟨sm.mut no, ?_, by walk_at "len"⟩
        rw [upd_same, dps_snoc, dst]
        simp [hc, dps]
    · rintro σ H' ⟨x, rfl, sm, ho, _⟩
      exact ⟨_, rfl, q _ _ sm no ho⟩
def spIsClosed (T : Txt K mg) : Sp := fun vs H Q _ => ∃ l, vs = [S l] ∧ l.length ≤ 90000 ∧ ∀ H', Same H H' → Q (.bl (isClosed l)) H'
theorem okIsClosed (T : Txt K mg) : FnOk P w K mg base CX0 2 T.f_is_closed.a T.f_is_closed.fd ["text"] (spIsClosed T) := by
  refine T.f_is_closed.F.ok scIsClosed (fun vs H Q E h => ?_) (fun cdv A outer s H vs Q E hr h => ?_)
  · obtain ⟨l, rfl, _⟩ := h
    rfl
  · obtain ⟨l, rfl, hl, q⟩ := h
    refine ⟨_, (pss_cons (ps_set (i := 1) scIsClosed.nd rfl (by first | exact Or.inl rfl | exact Or.inr rfl) (pe_call (okDepthsOf T) (hr.mono (by decide)) (by rfl) T.f_depths_of.g T.f_depths_of.F.kp T.f_depths_of.b .nil pass0 (pa_cons (pv 0) pa_nil)))
      (pss_one (ps_ret (pe_and (pe_cmpR op_notIn_sign pe_str (pv 0) rfl) (pe_and (pe_cmpR op_ge (pe_callB (cr_min rfl) (by rfl) T.n_min (by decide +kernel) (pa_cons (pv 1) pa_nil)) pe_int (nomark _)) (pe_one (pe_cmpR op_eq (pe_ix ix_list (pv 1) (pe_un un_neg pe_int) (fun _ _ => rfl)) pe_int (nomark _)))))))), ?_⟩
    refine ⟨_, rfl, l, rfl, hl, fun H1 p sm np hp => ?_⟩
    have qb : ∀ b, isClosed l = b → Q (.bl b) H1 := fun b e => e ▸ q H1 sm
    refine ⟨_, rfl, 63, St_ l, congrArg V.str lit_q, rfl, _, rfl, ite2 (fun h1 => ?_) (fun h1 => ?_)⟩
    · have n63 : decide (63 ∉ l) = true := by simpa using h1
      refine ⟨_, rfl, p, dps 0 l, rfl, SqL.of hp, by rw [dps_len]; omega, fun m hm hle => ?_⟩
      refine ⟨_, _, rfl, rfl, _, rfl, ite2 (fun h2 => ?_) (fun h2 => ?_)⟩
      · have hall : (dps 0 l).all (fun d => decide (0 ≤ d)) = true := by
          rw [List.all_eq_true]
          intro x hx
          have := of_decide_eq_true h2
          have := hle x hx
          exact decide_eq_true (by omega)
        rw [show dps 0 l = dpi 0 l ++ [fin 0 l] from rfl, List.map_append] at hp
        walk_at "go"
        refine qb _ ?_
        unfold isClosed
        rw [n63, hall, d_int]
        rfl
      · refine qb _ ?_
        unfold isClosed
        have hall : (dps 0 l).all (fun d => decide (0 ≤ d)) = false := by
          rw [List.all_eq_false]
          exact ⟨m, hm, by simpa using h2⟩
        rw [n63, hall]
        rfl
    · refine qb _ ?_
      unfold isClosed
      have n63 : decide (63 ∉ l) = false := by simpa using h1
      rw [n63]
      rfl
theorem d_row (l : List Nat) : decide (V.str (Txt.stripChars (St_ l) (Str.ofString "()?")) = V.str (Str.ofString "")) = decide (∀ c ∈ l, c ∈ [40, 41, 63]) := by
  rw [lit_ocq, lit_e, decide_eq_decide, ← strip_S]
  exact ⟨V.str.inj, fun h => congrArg V.str h⟩
theorem row_iff (l : List Nat) : (∀ c ∈ l, c ∈ [40, 41, 63]) ↔ IsRow l := by
  unfold IsRow
  simp
/-- a value that is no text -/
def NotS (K : PySem.W.Frag) (H : Hp) (v : V) : Prop := ∃ t, TyX K H v t ∧ PySem.W.kitOne K t (.type "str") = some false
def spAskedRow (T : Txt K mg) : Sp := fun vs H Q E => ∃ v, vs = [v] ∧ ((∃ l, v = S l ∧ l.length ≤ 90000 ∧ (IsRow l → Q .non H) ∧ (¬ IsRow l → E (.ref T.c_BadRow) none H)) ∨ (NotS K H v ∧ E (.ref T.c_BadRow) none H))
theorem okAskedRow (T : Txt K mg) : FnOk P w K mg base (L2N.CX P w) 2 T.f_asked_row.a T.f_asked_row.fd ["row"] (spAskedRow T) := by
  refine T.f_asked_row.F.okXN scAskedRow (fun vs H Q E h => ?_) (fun cdv A outer s H vs Q E hr h => ?_)
  · obtain ⟨v, rfl, _⟩ := h
    rfl
  · obtain ⟨v, rfl, h⟩ := h
    refine ⟨_, (pss_one (ps_if (PW.pt (pw_or (pt_not (pt_val (pe_callB call_isi (by rfl) T.n_isinstance (by decide +kernel) (pa_cons (pv 0) (pa_cons (pe_bltn (v := .ty "str") (by rfl) T.n_str (by decide +kernel) rfl) pa_nil))))) (pw_or1 (pt_cmpR op_ne (pe_bm PySem.F.plainAttrs_str PySem.F.slot_str_strip PySem.F.type_str_strip mt_stripChars (pv 0) (pa_cons pe_str pa_nil)) pe_str (nomark _))))) (pss_one (L2N.ps_raise rfl (L2N.takes_of rfl rfl rfl rfl) (L2N.pmk_own PySem.F.excBase_ValueError T.x_BadRow T.g_BadRow T.k_BadRow (raises_own T.b_BadRow T.t_BadRow) (by rfl))))
      pss_nil)), ?_⟩
    rcases h with ⟨l, rfl, hl, q1, q2⟩ | ⟨⟨t, ht, hk⟩, q⟩
    · refine ⟨_, rfl, _, _, _, _, true, rfl, .ty "str", .base (.str _), kit_ty (by decide +kernel), _, rfl, iteF ?_⟩
      refine ⟨_, rfl, rfl, _, _, rfl, rfl, szS (by omega), rfl, _, rfl, ite2 (fun hc => ?_) (fun hc => ?_)⟩
      · refine q2 fun hr => ?_
        rw [d_row, decide_eq_true ((row_iff l).mpr hr)] at hc
        cases hc
      · refine q1 ((row_iff l).mp ?_)
        rw [d_row] at hc
        exact Classical.byContradiction fun hn => by rw [decide_eq_false hn] at hc; exact hc rfl
    · refine ⟨_, rfl, _, _, _, _, false, rfl, .ty "str", ht, hk, _, rfl, iteT ?_⟩
      exact q
theorem d_oc2 (l : List Nat) : decide (V.str (Txt.stripChars (St_ l) (Str.ofString "()")) = V.str (Str.ofString "")) = decide (∀ c ∈ l, c ∈ [40, 41]) := by
  rw [lit_oc, lit_e, decide_eq_decide, ← strip_S]
  exact ⟨V.str.inj, fun h => congrArg V.str h⟩
theorem fill_no {l t : List Nat} (h : ¬ ∀ c ∈ t, c ∈ [40, 41]) (hr : IsRow t) : isFilling l t = false := by
  unfold isFilling
  rw [show isClosed t = false from ?_, Bool.false_and, Bool.and_false]
  refine Bool.eq_false_iff.mpr fun hc => h fun c hc' => ?_
  have h1 := (isClosed_iff t hr).mp hc
  have h2 := run_br t 0 0 h1 c hc'
  simpa using h2
def spIsFilling (T : Txt K mg) : Sp := fun vs H Q _ => ∃ l t, vs = [S l, S t] ∧ l.length ≤ 90000 ∧ t.length ≤ 90000 ∧ (IsRow t ∨ t.length ≠ l.length) ∧ ∀ H', Same H H' → Q (.bl (isFilling l t)) H'
theorem okIsFilling (T : Txt K mg) : FnOk P w K mg base CX0 3 T.f_is_filling.a T.f_is_filling.fd ["row", "text"] (spIsFilling T) := by
  refine T.f_is_filling.F.ok scIsFilling (fun vs H Q E h => ?_) (fun cdv A outer s H vs Q E hr h => ?_)
  · obtain ⟨l, t, rfl, _⟩ := h
    rfl
  · obtain ⟨l, t, rfl, hl, ht, hrw, q⟩ := h
    refine ⟨_, (pss_cons (ps_if (PW.pt (pw_or (pt_cmpR op_ne (pe_callB call_len_str (by rfl) T.n_len PySem.boot_len (pa_cons (pv 1) pa_nil)) (pe_callB call_len_str (by rfl) T.n_len PySem.boot_len (pa_cons (pv 0) pa_nil)) (nomark _)) (pw_or (pt_cmpR op_ne (pe_bm PySem.F.plainAttrs_str PySem.F.slot_str_strip PySem.F.type_str_strip mt_stripChars (pv 1) (pa_cons pe_str pa_nil)) pe_str (nomark _)) (pw_or1 (pt_not (pt_val (pe_call (okIsClosed T) (hr.mono (by decide)) (by rfl) T.f_is_closed.g T.f_is_closed.F.kp T.f_is_closed.b .nil pass0 (pa_cons (pv 1) pa_nil)))))))) (pss_one (ps_ret pe_bl))
      pss_nil)
      (pss_one (ps_ret (pe_callB (cr_all rfl) (by rfl) T.n_all (by decide +kernel) (pa_cons (pe_lc (own := [("told", 2), ("sign", 3)]) (g := gTup K 2 (gCons (gName 2) (gCons (gName 3) (gNil)))) rfl scIsFilling.nd (pi_zipS (by rfl) T.n_zip (pa_cons (pv 0) (pa_cons (pv 1) pa_nil))) (blkOk_by (own := [("told", 2), ("sign", 3)]) (N := ["row", "text", "told", "sign"]) (sc := defScope sIsFilling) (by decide +kernel)) (fun _ _ _ _ _ => (pg_tup rfl (pgs_cons (pg_name (i := 2) scIsFilling.nd rfl (by first | exact Or.inl rfl | exact Or.inr rfl)) (pgs_cons (pg_name (i := 3) scIsFilling.nd rfl (by first | exact Or.inl rfl | exact Or.inr rfl)) pgs_nil)))) (fun _ _ _ _ _ => pts_nil) (fun _ _ _ _ _ => (pe_or (pe_cmpR op_eq (pv 2) pe_str (nomark _)) (pe_one (pe_cmpR op_eq (pv 2) (pv 3) (nomark _)))))) pa_nil))))), ?_⟩
    have qb : ∀ b H', Same H H' → isFilling l t = b → Q (.bl b) H' := fun b H' s e => e ▸ q H' s
    refine ⟨_, rfl, St_ t, rfl, szS (by omega), _, rfl, St_ l, rfl, szS (by omega), rfl, _, rfl, ite2 (fun hc => ?_) (fun hc => ?_)⟩
    · refine qb _ _ (Same.refl _) ?_
      unfold isFilling
      rw [len_S, len_S, d_int] at hc
      rw [decide_eq_false (fun e => by rw [decide_eq_true (by exact_mod_cast e)] at hc; cases hc), Bool.false_and]
    · rw [len_S, len_S, d_int] at hc
      have hlen : t.length = l.length := Classical.byContradiction fun h => hc (by rw [decide_eq_false (by omega)]; rfl)
      have hrt : IsRow t := hrw.resolve_right (fun h => h hlen)
      refine ⟨_, rfl, rfl, _, _, rfl, rfl, szS (by omega), rfl, _, rfl, ite2 (fun hc2 => ?_) (fun hc2 => ?_)⟩
      · refine qb _ _ (Same.refl _) (fill_no (fun h => ?_) hrt)
        rw [d_oc2, decide_eq_true h] at hc2
        cases hc2
      · refine ⟨_, rfl, t, rfl, ht, fun H1 s1 => ⟨_, rfl, ?_⟩⟩
        cases hcl : isClosed t with
        | false =>
          refine iteT (qb _ _ s1 ?_)
          unfold isFilling
          rw [hcl, Bool.false_and, Bool.and_false]
        | true =>
          refine iteF ?_
          refine ⟨_, rfl, _, rfl, St_ l, St_ t, rfl, fun D hD => lc_zipS (fun c d => .bl (decide (c = 63 ∨ c = d))) hD (by omega) hlen (fun _ _ => rfl) (fun c d H' s' Q q => ?_) fun H2 s2 e2 => ?_⟩
          · refine ⟨_, rfl, rfl, _, rfl, ?_⟩
            rw [d_q]
            by_cases h : c = 63
            · rw [decide_eq_true h]
              refine iteT ?_
              have := q H' (Same.refl _)
              rwa [decide_eq_true (Or.inl h)] at this
            · rw [decide_eq_false h]
              refine iteF ⟨_, rfl, _, rfl, rfl, ?_⟩
              have := q H' (Same.refl _)
              rw [d_ch]
              rwa [show decide (c = 63 ∨ c = d) = decide (c = d) by rw [decide_eq_decide]; exact ⟨fun e => e.resolve_left h, .inr⟩] at this
          · refine ⟨D, (l.zip t).map fun p => decide (p.1 = 63 ∨ p.1 = p.2), rfl, SqL.of (by rw [e2, List.map_map]; rfl), qb _ _ (s1.trans s2) ?_⟩
            unfold isFilling
            rw [all_map_bl, hcl, decide_eq_true hlen, Bool.true_and, Bool.true_and]
            rfl
end
end HT

set_option Elab.async false
set_option linter.all false
set_option maxRecDepth 100000
set_option maxHeartbeats 4000000
namespace HT
open PySem PySem.Spec PyProof.Rows L2 BR
local macro_rules | `(tactic| walk_at "sq") => `(tactic| first | exact SqL.of (by assumption) | exact SqL.of upd_same | exact SqT.of (by assumption) | exact SqT.of upd_same | assumption | exact Same.seq (by assumption) (by assumption) | exact Same.seq (Same.trans (by assumption) (by assumption)) (by assumption))
local macro_rules | `(tactic| walk_at "len") => `(tactic| (simp only [List.length_append, List.length_map, List.length_cons, List.length_nil, List.length_set, List.length_replicate, List.length_take, List.length_drop, List.length_reverse, List.length_range, dpi_len, dps_len, len_S]; omega))
local macro_rules | `(tactic| walk_at "g1") => `(tactic| first
  | refine ⟨_, rfl, ?_⟩
  | refine ⟨rfl, ?_⟩
  | refine ⟨_, _, rfl, rfl, @id.{0} _ (by first | decide | omega | exact ⟨by decide, by decide⟩ | exact .inr ⟨by decide, by decide⟩ | (show (0 : Int) < _; decide)), ?_⟩
  | refine ⟨_, _, rfl, rfl, ?_⟩
  | refine ⟨_, _, _, _, rfl, rfl, (by walk_at "sq"), (by first | exact atI_last _ _ | (with_reducible exact atI_nat (by assumption))), ?_⟩
  | refine ⟨.inl ⟨rfl, _, (by walk_at "sq")⟩, ?_⟩
  | refine ⟨_, _, rfl, (by first | exact .inl (by walk_at "sq") | exact .inr (by walk_at "sq")), ?_⟩
  | refine ⟨_, rfl, (by first | exact sz5 (by walk_at "len") | exact szS (by omega)), ?_⟩
  | refine ⟨_, _, _, rfl, rfl, (by assumption), sz5l (by walk_at "len"), ?_⟩)
local macro_rules | `(tactic| walk_at "go") => `(tactic| repeat walk_at "g1")
local macro_rules | `(tactic| walk_at "nxt") => `(tactic| (show tSeq Ends.nx _ _ _ _; refine nx_in ?_))

section
variable {P : Program} {w : World} {K : PySem.W.Frag} {mg : Str → Option Value} {base : Heap}
/-- what an answer holds -/
abbrev fdText (t : List Nat) : List (Str × V) := putF "text" (S t) []
abbrev fdMany (m : Nat) : List (Str × V) := putF "many" (.int (m : Nat)) []
theorem lk1 (f : Str) (v : V) : (putF f v []).lookup f = some v := by
  rw [lookup_putF, if_pos rfl]
theorem lkn {f g : Str} (v : V) (h : g ≠ f) : (putF f v []).lookup g = none := by
  rw [lookup_putF, if_neg h]; rfl
def closesTooMuch (l : List Nat) (m : Int) : Bool := decide (0 ≤ m ∧ m ≤ l.length) && decide (2 * ((l.take m.toNat).count 41 : Int) > m)
def opensTooMuch (l : List Nat) (m : Int) : Bool := decide (0 ≤ m ∧ m ≤ l.length) && decide (2 * ((l.drop (l.length - m.toNat)).count 40 : Int) > m)
def spInitFilled (T : Txt K mg) : Sp := fun vs H Q _ => ∃ (p dx : Addr) (v : V), vs = [.ref p, v] ∧ H p = some (.ins T.c_Filled dx []) ∧ Q .non (upd H p (.ins T.c_Filled dx (putF "text" v [])))
theorem okInitFilled (T : Txt K mg) : FnOk P w K mg base CX0 1 T.i_Filled.a T.i_Filled.fd ["self", "text"] (spInitFilled T) := by
  refine T.i_Filled.F.ok scInitFilled (fun vs H Q E h => ?_) (fun cdv A outer s H vs Q E hr h => ?_)
  · obtain ⟨p, dx, v, rfl, _⟩ := h
    rfl
  · obtain ⟨p, dx, v, rfl, hp, q⟩ := h
    refine ⟨_, (pss_one (ps_fld (pv 0) (pv 1) rfl)), ?_⟩
    exact ⟨_, rfl, _, rfl, p, T.c_Filled, dx, _, rfl, hp, T.o_Filled.cl, T.na_Filled_text, by decide, q⟩
def spInitEarly (T : Txt K mg) : Sp := fun vs H Q _ => ∃ (p dx : Addr) (v : V), vs = [.ref p, v] ∧ H p = some (.ins T.c_Early dx []) ∧ Q .non (upd H p (.ins T.c_Early dx (putF "many" v [])))
theorem okInitEarly (T : Txt K mg) : FnOk P w K mg base CX0 1 T.i_Early.a T.i_Early.fd ["self", "many"] (spInitEarly T) := by
  refine T.i_Early.F.ok scInitEarly (fun vs H Q E h => ?_) (fun cdv A outer s H vs Q E hr h => ?_)
  · obtain ⟨p, dx, v, rfl, _⟩ := h
    rfl
  · obtain ⟨p, dx, v, rfl, hp, q⟩ := h
    refine ⟨_, (pss_one (ps_fld (pv 0) (pv 1) rfl)), ?_⟩
    exact ⟨_, rfl, _, rfl, p, T.c_Early, dx, _, rfl, hp, T.o_Early.cl, T.na_Early_many, by decide, q⟩
def spInitLate (T : Txt K mg) : Sp := fun vs H Q _ => ∃ (p dx : Addr) (v : V), vs = [.ref p, v] ∧ H p = some (.ins T.c_Late dx []) ∧ Q .non (upd H p (.ins T.c_Late dx (putF "many" v [])))
theorem okInitLate (T : Txt K mg) : FnOk P w K mg base CX0 1 T.i_Late.a T.i_Late.fd ["self", "many"] (spInitLate T) := by
  refine T.i_Late.F.ok scInitLate (fun vs H Q E h => ?_) (fun cdv A outer s H vs Q E hr h => ?_)
  · obtain ⟨p, dx, v, rfl, _⟩ := h
    rfl
  · obtain ⟨p, dx, v, rfl, hp, q⟩ := h
    refine ⟨_, (pss_one (ps_fld (pv 0) (pv 1) rfl)), ?_⟩
    exact ⟨_, rfl, _, rfl, p, T.c_Late, dx, _, rfl, hp, T.o_Late.cl, T.na_Late_many, by decide, q⟩
def spShowsFilled (T : Txt K mg) : Sp := fun vs H Q _ => ∃ (p dx : Addr) (fs : List (Str × V)) (l t : List Nat), vs = [.ref p, S l] ∧ H p = some (.ins T.c_Filled dx fs) ∧ fs.lookup ("text" : Str) = some (S t) ∧ l.length ≤ 90000 ∧ t.length ≤ 90000 ∧ (IsRow t ∨ t.length ≠ l.length) ∧ ∀ H', Same H H' → Q (.bl (isFilling l t)) H'
theorem okShowsFilled (T : Txt K mg) : FnOk P w K mg base CX0 4 T.m_Filled.a T.m_Filled.fd ["self", "row"] (spShowsFilled T) := by
  refine T.m_Filled.F.ok scShowsFilled (fun vs H Q E h => ?_) (fun cdv A outer s H vs Q E hr h => ?_)
  · obtain ⟨p, dx, fs, l, t, rfl, _⟩ := h
    rfl
  · obtain ⟨p, dx, fs, l, t, rfl, hp, hf, hl, ht, hrw, q⟩ := h
    refine ⟨_, (pss_one (ps_ret (pe_call (okIsFilling T) (hr.mono (by decide)) (by rfl) T.f_is_filling.g T.f_is_filling.F.kp T.f_is_filling.b .nil pass0 (pa_cons (pv 1) (pa_cons (pe_fld (pv 0) rfl) pa_nil))))), ?_⟩
    exact ⟨_, rfl, _, rfl, p, T.c_Filled, dx, fs, _, rfl, hp, T.o_Filled.cl, T.na_Filled_text, hf, l, t, rfl, hl, ht, hrw, q⟩
def spShowsUneven (T : Txt K mg) : Sp := fun vs H Q _ => ∃ (v : V) (l : List Nat), vs = [v, S l] ∧ l.length ≤ 90000 ∧ Q (.bl (decide (l.length % 2 = 1))) H
theorem okShowsUneven (T : Txt K mg) : FnOk P w K mg base CX0 1 T.m_Uneven.a T.m_Uneven.fd ["self", "row"] (spShowsUneven T) := by
  refine T.m_Uneven.F.ok scShowsUneven (fun vs H Q E h => ?_) (fun cdv A outer s H vs Q E hr h => ?_)
  · obtain ⟨v, l, rfl, _⟩ := h
    rfl
  · obtain ⟨v, l, rfl, hl, q⟩ := h
    refine ⟨_, (pss_one (ps_ret (pe_cmpR op_eq (pe_op op_mod (pe_callB call_len_str (by rfl) T.n_len PySem.boot_len (pa_cons (pv 1) pa_nil)) pe_int) pe_int (nomark _)))), ?_⟩
    refine ⟨_, rfl, St_ l, rfl, szS (by omega), _, _, rfl, rfl, (show (0 : Int) < 2 by decide), rfl, ?_⟩
    rw [d_int, len_S]
    rwa [show decide (((l.length : Nat) : Int) % 2 = 1) = decide (l.length % 2 = 1) by rw [decide_eq_decide]; omega]
def spShowsEarly (T : Txt K mg) : Sp := fun vs H Q _ => ∃ (p dx : Addr) (fs : List (Str × V)) (l : List Nat) (m : Int), vs = [.ref p, S l] ∧ H p = some (.ins T.c_Early dx fs) ∧ fs.lookup ("many" : Str) = some (.int m) ∧ l.length ≤ 90000 ∧ Q (.bl (closesTooMuch l m)) H
theorem okShowsEarly (T : Txt K mg) : FnOk P w K mg base CX0 1 T.m_Early.a T.m_Early.fd ["self", "row"] (spShowsEarly T) := by
  refine T.m_Early.F.ok scShowsEarly (fun vs H Q E h => ?_) (fun cdv A outer s H vs Q E hr h => ?_)
  · obtain ⟨p, dx, fs, l, m, rfl, _⟩ := h
    rfl
  · obtain ⟨p, dx, fs, l, m, rfl, hp, hf, hl, q⟩ := h
    refine ⟨_, (pss_cons (ps_if (pt_not (pt_chain op_le op_le pe_int (pe_fld (pv 0) rfl) (pe_callB call_len_str (by rfl) T.n_len PySem.boot_len (pa_cons (pv 1) pa_nil)))) (pss_one (ps_ret pe_bl))
      pss_nil)
      (pss_one (ps_ret (pe_cmpR op_gt (pe_op op_mul pe_int (pe_bm PySem.F.plainAttrs_str PySem.F.slot_str_count PySem.F.type_str_count mt_count (pe_slice sl_str (pv 1) po_none (po_some (pe_fld (pv 0) rfl))) (pa_cons pe_str pa_nil))) (pe_fld (pv 0) rfl) (nomark _))))), ?_⟩
    have e41 : (Str.ofString ")") = (⟨#[41]⟩ : Str) := by decide +kernel
    have qb : ∀ b, closesTooMuch l m = b → Q (.bl b) H := fun b e => e ▸ q
    refine ⟨_, rfl, p, T.c_Early, dx, fs, _, rfl, hp, T.o_Early.cl, T.na_Early_many, hf, ?_⟩
    refine ⟨_, _, rfl, rfl, _, rfl, ite2 (fun h0 => ?_) (fun h0 => ?_)⟩
    · refine ⟨_, rfl, St_ l, rfl, szS (by omega), _, _, rfl, rfl, _, rfl, ite2 (fun h1 => ?_) (fun h1 => ?_)⟩
      · refine qb _ (by
          have h1 : ¬ m ≤ ((St_ l).length : Int) := fun h => by rw [decide_eq_true h] at h1; cases h1
          rw [len_S] at h1
          unfold closesTooMuch
          rw [decide_eq_false (fun h => h1 h.2), Bool.false_and])
      · have h0 := of_decide_eq_true h0
        have h1 : m ≤ ((St_ l).length : Int) := Classical.byContradiction fun h => h1 (by rw [decide_eq_false h]; rfl)
        rw [len_S] at h1
        obtain ⟨k, rfl⟩ : ∃ k : Nat, m = (k : Int) := ⟨m.toNat, (Int.toNat_of_nonneg h0).symm⟩
        refine ⟨_, rfl, _, rfl, p, T.c_Early, dx, fs, _, rfl, hp, T.o_Early.cl, T.na_Early_many, hf, _, rfl, St_ l, rfl, szS (by omega), ?_⟩
        rw [cut_to]
        refine ⟨rfl, _, _, rfl, rfl, _, _, rfl, rfl, .inl ⟨by decide, by decide⟩, _, rfl, p, T.c_Early, dx, fs, _, rfl, hp, T.o_Early.cl, T.na_Early_many, hf, _, _, rfl, rfl, qb _ ?_⟩
        rw [e41, count_S]
        unfold closesTooMuch
        rw [decide_eq_true ⟨h0, h1⟩, Bool.true_and, Int.toNat_natCast]
    · refine ⟨_, rfl, iteT (qb _ ?_)⟩
      unfold closesTooMuch
      rw [decide_eq_false (fun h => h0 (decide_eq_true h.1)), Bool.false_and]
def spShowsLate (T : Txt K mg) : Sp := fun vs H Q _ => ∃ (p dx : Addr) (fs : List (Str × V)) (l : List Nat) (m : Int), vs = [.ref p, S l] ∧ H p = some (.ins T.c_Late dx fs) ∧ fs.lookup ("many" : Str) = some (.int m) ∧ l.length ≤ 90000 ∧ Q (.bl (opensTooMuch l m)) H
theorem okShowsLate (T : Txt K mg) : FnOk P w K mg base CX0 1 T.m_Late.a T.m_Late.fd ["self", "row"] (spShowsLate T) := by
  refine T.m_Late.F.ok scShowsLate (fun vs H Q E h => ?_) (fun cdv A outer s H vs Q E hr h => ?_)
  · obtain ⟨p, dx, fs, l, m, rfl, _⟩ := h
    rfl
  · obtain ⟨p, dx, fs, l, m, rfl, hp, hf, hl, q⟩ := h
    refine ⟨_, (pss_cons (ps_if (pt_not (pt_chain op_le op_le pe_int (pe_fld (pv 0) rfl) (pe_callB call_len_str (by rfl) T.n_len PySem.boot_len (pa_cons (pv 1) pa_nil)))) (pss_one (ps_ret pe_bl))
      pss_nil)
      (pss_one (ps_ret (pe_cmpR op_gt (pe_op op_mul pe_int (pe_bm PySem.F.plainAttrs_str PySem.F.slot_str_count PySem.F.type_str_count mt_count (pe_slice sl_str (pv 1) (po_some (pe_op op_sub (pe_callB call_len_str (by rfl) T.n_len PySem.boot_len (pa_cons (pv 1) pa_nil)) (pe_fld (pv 0) rfl))) po_none) (pa_cons pe_str pa_nil))) (pe_fld (pv 0) rfl) (nomark _))))), ?_⟩
    have e40 : (Str.ofString "(") = (⟨#[40]⟩ : Str) := by decide +kernel
    have qb : ∀ b, opensTooMuch l m = b → Q (.bl b) H := fun b e => e ▸ q
    refine ⟨_, rfl, p, T.c_Late, dx, fs, _, rfl, hp, T.o_Late.cl, T.na_Late_many, hf, ?_⟩
    refine ⟨_, _, rfl, rfl, _, rfl, ite2 (fun h0 => ?_) (fun h0 => ?_)⟩
    · refine ⟨_, rfl, St_ l, rfl, szS (by omega), _, _, rfl, rfl, _, rfl, ite2 (fun h1 => ?_) (fun h1 => ?_)⟩
      · refine qb _ (by
          have h1 : ¬ m ≤ ((St_ l).length : Int) := fun h => by rw [decide_eq_true h] at h1; cases h1
          rw [len_S] at h1
          unfold opensTooMuch
          rw [decide_eq_false (fun h => h1 h.2), Bool.false_and])
      · have h0 := of_decide_eq_true h0
        have h1 : m ≤ ((St_ l).length : Int) := Classical.byContradiction fun h => h1 (by rw [decide_eq_false h]; rfl)
        rw [len_S] at h1
        obtain ⟨k, rfl⟩ : ∃ k : Nat, m = (k : Int) := ⟨m.toNat, (Int.toNat_of_nonneg h0).symm⟩
        refine ⟨_, rfl, _, rfl, St_ l, rfl, szS (by omega), _, rfl, p, T.c_Late, dx, fs, _, rfl, hp, T.o_Late.cl, T.na_Late_many, hf, _, _, rfl, rfl, _, rfl, St_ l, rfl, szS (by omega), ?_⟩
        have ek : ((St_ l).length : Int) - (k : Int) = ((l.length - k : Nat) : Int) := by rw [len_S]; omega
        have ec : cutS (St_ l) (some (((St_ l).length : Int) - (k : Int))) none = St_ (l.drop (l.length - k)) := by rw [ek, cut_from]
        refine ⟨rfl, _, _, rfl, rfl, _, _, rfl, rfl, .inl ⟨by decide, by decide⟩, _, rfl, p, T.c_Late, dx, fs, _, rfl, hp, T.o_Late.cl, T.na_Late_many, hf, _, _, rfl, rfl, qb _ ?_⟩
        rw [e40, ec, count_S]
        unfold opensTooMuch
        rw [decide_eq_true ⟨h0, h1⟩, Bool.true_and, Int.toNat_natCast]
    · refine ⟨_, rfl, iteT (qb _ ?_)⟩
      unfold opensTooMuch
      rw [decide_eq_false (fun h => h0 (decide_eq_true h.1)), Bool.false_and]
inductive Ans where
  | filled (t : List Nat)
  | uneven
  | early (m : Nat)
  | late (m : Nat)
def AnsAt (T : Txt K mg) (H : Hp) (x : Addr) : Ans → Prop
  | .filled t => ∃ dx, H x = some (.ins T.c_Filled dx (fdText t))
  | .uneven => ∃ dx, H x = some (.ins T.c_Uneven dx [])
  | .early m => ∃ dx, H x = some (.ins T.c_Early dx (fdMany m))
  | .late m => ∃ dx, H x = some (.ins T.c_Late dx (fdMany m))
def ansSays (l : List Nat) : Ans → Bool
  | .filled t => isFilling l t
  | .uneven => decide (l.length % 2 = 1)
  | .early m => closesTooMuch l m
  | .late m => opensTooMuch l m
def ansFit : Ans → Prop
  | .filled t => IsRow t ∧ t.length ≤ 90000
  | _ => True
theorem AnsAt.keep {T : Txt K mg} {H H' : Hp} {x : Addr} {a : Ans} (h : AnsAt T H x a) (s : Same H H') : AnsAt T H' x a := by
  cases a <;> (obtain ⟨dx, h⟩ := h; exact ⟨dx, s _ _ h⟩)
def ShowsOf (T : Txt K mg) : Addr → Sp → Prop := fun C sp => (C = T.c_Filled ∧ sp = spShowsFilled T) ∨ (C = T.c_Uneven ∧ sp = spShowsUneven T) ∨ (C = T.c_Early ∧ sp = spShowsEarly T) ∨ (C = T.c_Late ∧ sp = spShowsLate T)
theorem showsX (T : Txt K mg) : ∀ C sp, ShowsOf T C sp → HasM P w K mg base CX0 4 "shows" C sp := by
  rintro C sp (⟨rfl, rfl⟩ | ⟨rfl, rfl⟩ | ⟨rfl, rfl⟩ | ⟨rfl, rfl⟩)
  · exact ⟨_, _, _, _, Nat.le_refl _, T.o_Filled.cl, T.me_Filled, okShowsFilled T, T.m_Filled.b⟩
  · exact ⟨_, _, _, _, by decide, T.o_Uneven.cl, T.me_Uneven, okShowsUneven T, T.m_Uneven.b⟩
  · exact ⟨_, _, _, _, by decide, T.o_Early.cl, T.me_Early, okShowsEarly T, T.m_Early.b⟩
  · exact ⟨_, _, _, _, by decide, T.o_Late.cl, T.me_Late, okShowsLate T, T.m_Late.b⟩
theorem rd_shows {T : Txt K mg} {H : Hp} {σ : L2.St} {Q : VK} {E : XK} {x : Addr} {a : Ans} {l : List Nat} {ta : TE} {t : TA} (h : AnsAt T H x a) (hf : ansFit a) (hl : l.length ≤ 90000)
    (hta : ∀ Q : VK, Q (.ref x) H → ta σ H Q) (ht : ∀ Q : List V → Hp → Prop, Q [S l] H → t σ H Q) (q : ∀ H', Same H H' → Q (.bl (ansSays l a)) H') : tMethX (ShowsOf T) "shows" E ta t σ H Q := by
  have n1 : (Str.ofString "shows") ≠ Str.ofString "text" := by decide +kernel
  have n2 : (Str.ofString "shows") ≠ Str.ofString "many" := by decide +kernel
  refine hta _ ?_
  cases a with
  | filled t =>
    obtain ⟨dx, h⟩ := h
    exact ⟨x, dx, _, _, _, rfl, h, lkn _ n1, .inl ⟨rfl, rfl⟩, ht _ ⟨x, dx, _, l, t, rfl, h, lk1 _ _, hl, hf.2, .inl hf.1, q⟩⟩
  | uneven =>
    obtain ⟨dx, h⟩ := h
    exact ⟨x, dx, _, _, _, rfl, h, rfl, .inr (.inl ⟨rfl, rfl⟩), ht _ ⟨.ref x, l, rfl, hl, q _ (Same.refl _)⟩⟩
  | early m =>
    obtain ⟨dx, h⟩ := h
    exact ⟨x, dx, _, _, _, rfl, h, lkn _ n2, .inr (.inr (.inl ⟨rfl, rfl⟩)), ht _ ⟨x, dx, _, l, m, rfl, h, lk1 _ _, hl, q _ (Same.refl _)⟩⟩
  | late m =>
    obtain ⟨dx, h⟩ := h
    exact ⟨x, dx, _, _, _, rfl, h, lkn _ n2, .inr (.inr (.inr ⟨rfl, rfl⟩)), ht _ ⟨x, dx, _, l, m, rfl, h, lk1 _ _, hl, q _ (Same.refl _)⟩⟩
def spEarliest (T : Txt K mg) : Sp := fun vs H Q _ => ∃ l, vs = [S l] ∧ l.length ≤ 90000 ∧ 2 * l.count 40 ≤ l.length ∧ ∀ H', Same H H' → Q (S (fillE (l.length / 2 - l.count 40) l)) H'
theorem okEarliest (T : Txt K mg) : FnOk P w K mg base CX0 1 T.f_earliest.a T.f_earliest.fd ["row"] (spEarliest T) := by
  refine T.f_earliest.F.ok scEarliest (fun vs H Q E h => ?_) (fun cdv A outer s H vs Q E hr h => ?_)
  · obtain ⟨l, rfl, _⟩ := h
    rfl
  · obtain ⟨l, rfl, hl, h2, q⟩ := h
    refine ⟨_, (pss_cons (ps_set (i := 1) scEarliest.nd rfl (by first | exact Or.inl rfl | exact Or.inr rfl) (pe_op op_sub (pe_op op_fdiv (pe_callB call_len_str (by rfl) T.n_len PySem.boot_len (pa_cons (pv 0) pa_nil)) pe_int) (pe_bm PySem.F.plainAttrs_str PySem.F.slot_str_count PySem.F.type_str_count mt_count (pv 0) (pa_cons pe_str pa_nil))))
      (pss_cons (ps_set (i := 2) scEarliest.nd rfl (by first | exact Or.inl rfl | exact Or.inr rfl) (pe_lst pa_nil))
      (pss_cons (ps_for PassesOwn.never rfl (pi_str (pv 0)) (pg_name (i := 3) scEarliest.nd rfl (by first | exact Or.inl rfl | exact Or.inr rfl))
      (pss_one (ps_if (PW.pt (pw_and (pt_cmpR op_eq (pv 3) pe_str (nomark _)) (pw_and1 (pt_cmpR op_gt (pv 1) pe_int (nomark _))))) (pss_cons (ps_expr (pe_bm PySem.F.plainAttrs_list PySem.F.slot_list_append PySem.F.type_list_append mt_append (pv 2) (pa_cons pe_str pa_nil)))
      (pss_one (ps_set (i := 1) scEarliest.nd rfl (by first | exact Or.inl rfl | exact Or.inr rfl) (pe_op op_sub (pv 1) pe_int))))
      (pss_one (ps_if (pt_cmpR op_eq (pv 3) pe_str (nomark _)) (pss_one (ps_expr (pe_bm PySem.F.plainAttrs_list PySem.F.slot_list_append PySem.F.type_list_append mt_append (pv 2) (pa_cons pe_str pa_nil))))
      (pss_one (ps_expr (pe_bm PySem.F.plainAttrs_list PySem.F.slot_list_append PySem.F.type_list_append mt_append (pv 2) (pa_cons (pv 3) pa_nil)))))))))
      (pss_one (ps_ret (pe_join pe_str (pv 2))))))), ?_⟩
    obtain ⟨k, hk⟩ : ∃ k, k = l.length / 2 - l.count 40 := ⟨_, rfl⟩
    rw [← hk] at q
    have e40 : (Str.ofString "(") = (⟨#[40]⟩ : Str) := by decide +kernel
    refine sq_set (.int (k : Int)) (fun Q q => ?_) ?_
    · refine ⟨_, rfl, St_ l, rfl, szS (by omega), _, _, rfl, rfl, ⟨by decide, by decide⟩, _, rfl, rfl, _, _, rfl, rfl, _, _, rfl, rfl, ?_⟩
      have e : ((St_ l).length : Int) / 2 - Txt.count (St_ l) (Str.ofString "(") = (k : Int) := by rw [e40, count_S, len_S, hk]; omega
      show Q (.int (((St_ l).length : Int) / 2 - Txt.count (St_ l) (Str.ofString "("))) H
      rw [e]
      exact q
    refine ⟨Nat.zero_le _, fun o no => ?_⟩
    refine ⟨_, rfl, _, rfl, for_txt (l := l) (fun p σ H' => ∃ x, σ = [some (S l), some (.int ((k - p.count 63 : Nat) : Int)), some (.ref o), x] ∧ Same H H' ∧ H' o = some (.lst ((fillE k p).map ch)) ∧ p.length ≤ l.length) ⟨none, rfl, Same.new no, upd_same, Nat.zero_le _⟩ ?_ ?_⟩
    · rintro p c r σ H' e ⟨x, rfl, sm, ho, hp⟩
      have hlen : p.length + 1 ≤ l.length := by rw [e]; simp
      have hfl := fillE_len p k
      refine ⟨_, rfl, rfl, _, rfl, ?_⟩
      rw [d_q]
      by_cases hc : c = 63
      · subst hc
        refine iteT ⟨_, rfl, _, _, rfl, rfl, _, rfl, ite2 (fun h => ?_) (fun h => ?_)⟩
        · have h : (0 : Int) < ((k - p.count 63 : Nat) : Int) := of_decide_eq_true h
          refine ⟨_, rfl, .inl ⟨rfl, _, SqL.of ho⟩, _, _, _, rfl, rfl, ho, sz5l (by walk_at "len"), ?_⟩
          refine ⟨_, rfl, _, _, rfl, rfl, some (ch 63), ?_, sm.mut no, ?_, by walk_at "len"⟩
          · have ez : ((k - p.count 63 : Nat) : Int) - 1 = ((k - (p ++ [63]).count 63 : Nat) : Int) := by
              rw [List.count_append]
              simp
              omega
            show [some (S l), some (V.int (((k - p.count 63 : Nat) : Int) - 1)), some (V.ref o), _] = _
            rw [ez]
          · rw [upd_same, fillE_snoc, List.map_append, if_pos rfl, if_pos (by omega), lit_op]; rfl
        · have h : ¬ (0 : Int) < ((k - p.count 63 : Nat) : Int) := fun hh => h (decide_eq_true hh)
          refine ⟨_, rfl, rfl, _, rfl, ?_⟩
          rw [d_q]
          refine iteT ⟨_, rfl, .inl ⟨rfl, _, SqL.of ho⟩, _, _, _, rfl, rfl, ho, sz5l (by walk_at "len"), some (ch 63), ?_, sm.mut no, ?_, by walk_at "len"⟩
          · have ez : k - p.count 63 = k - (p ++ [63]).count 63 := by
              rw [List.count_append]
              simp
              omega
            rw [← ez]
            rfl
          · rw [upd_same, fillE_snoc, List.map_append, if_pos rfl, if_neg (by omega), lit_cl]; rfl
      · rw [decide_eq_false hc]
        refine iteF ⟨_, rfl, rfl, _, rfl, ?_⟩
        rw [d_q, decide_eq_false hc]
        refine iteF ⟨_, rfl, .inl ⟨rfl, _, SqL.of ho⟩, _, rfl, _, _, _, rfl, rfl, ho, sz5l (by walk_at "len"), some (ch c), ?_, sm.mut no, ?_, by walk_at "len"⟩
        · have ez : p.count 63 = (p ++ [c]).count 63 := by
            rw [List.count_append]
            simp [List.count_cons, hc]
          rw [← ez]
          rfl
        · rw [upd_same, fillE_snoc, List.map_append, if_neg hc]; rfl
    · rintro σ H' ⟨x, rfl, sm, ho, hp⟩
      exact ⟨⟨_, rfl⟩, _, rfl, join_rd (SqL.of ho) (by rw [fillE_len]; omega) (q _ sm)⟩
def spFilled (T : Txt K mg) : Sp := fun vs H Q E => ∃ v, vs = [v] ∧ ((∃ l, v = S l ∧ l.length ≤ 80000 ∧ (¬ IsRow l → E (.ref T.c_BadRow) none H) ∧
  (IsRow l → ∀ H' x a, AnsAt T H' x a → ansFit a → ansSays l a = true → (l = [] → ∃ t, a = .filled t) → Same H H' → H x = none → Q (.ref x) H')) ∨ (NotS K H v ∧ E (.ref T.c_BadRow) none H))
theorem okFilled (T : Txt K mg) : FnOk P w K mg base (L2N.CX P w) 3 T.f_filled.a T.f_filled.fd ["row"] (spFilled T) := by
  refine T.f_filled.F.okXN scFilled (fun vs H Q E h => ?_) (fun cdv A outer s H vs Q E hr h => ?_)
  · obtain ⟨v, rfl, _⟩ := h
    rfl
  · obtain ⟨v, rfl, h⟩ := h
    refine ⟨_, (pss_cons (ps_expr (pe_call (okAskedRow T) (hr.mono (by decide)) (by rfl) T.f_asked_row.g T.f_asked_row.F.kp T.f_asked_row.b .nil (L2N.passes_call (L2N.takes_of rfl rfl rfl rfl) (fun _ _ _ _ h => h)) (pa_cons (pv 0) pa_nil)))
      (PSs.nox (pss_cons (ps_if (pt_cmpR op_eq (pe_op op_mod (pe_callB call_len_str (by rfl) T.n_len PySem.boot_len (pa_cons (pv 0) pa_nil)) pe_int) pe_int (nomark _)) (pss_one (ps_ret (pe_makePlain T.pl_Uneven (by rfl) T.g_Uneven)))
      pss_nil)
      (pss_cons (ps_for PassesOwn.never rfl (pi_range2 (by rfl) T.n_range (pa_cons pe_int (pa_cons (pe_op op_add (pe_callB call_len_str (by rfl) T.n_len PySem.boot_len (pa_cons (pv 0) pa_nil)) pe_int) pa_nil))) (pg_name (i := 1) scFilled.nd rfl (by first | exact Or.inl rfl | exact Or.inr rfl))
      (pss_one (ps_if (pt_cmpR op_gt (pe_op op_mul pe_int (pe_bm PySem.F.plainAttrs_str PySem.F.slot_str_count PySem.F.type_str_count mt_count (pe_slice sl_str (pv 0) po_none (po_some (pv 1))) (pa_cons pe_str pa_nil))) (pv 1) (nomark _)) (pss_one (ps_ret (pe_make T.mk_Early (okInitEarly T) (hr.mono (by decide)) (by rfl) T.g_Early T.i_Early.b .nil pass0 (pa_cons (pv 1) pa_nil))))
      pss_nil)))
      (pss_cons (ps_for PassesOwn.never rfl (pi_range2 (by rfl) T.n_range (pa_cons pe_int (pa_cons (pe_op op_add (pe_callB call_len_str (by rfl) T.n_len PySem.boot_len (pa_cons (pv 0) pa_nil)) pe_int) pa_nil))) (pg_name (i := 1) scFilled.nd rfl (by first | exact Or.inl rfl | exact Or.inr rfl))
      (pss_one (ps_if (pt_cmpR op_gt (pe_op op_mul pe_int (pe_bm PySem.F.plainAttrs_str PySem.F.slot_str_count PySem.F.type_str_count mt_count (pe_slice sl_str (pv 0) (po_some (pe_op op_sub (pe_callB call_len_str (by rfl) T.n_len PySem.boot_len (pa_cons (pv 0) pa_nil)) (pv 1))) po_none) (pa_cons pe_str pa_nil))) (pv 1) (nomark _)) (pss_one (ps_ret (pe_make T.mk_Late (okInitLate T) (hr.mono (by decide)) (by rfl) T.g_Late T.i_Late.b .nil pass0 (pa_cons (pv 1) pa_nil))))
      pss_nil)))
      (pss_one (ps_ret (pe_make T.mk_Filled (okInitFilled T) (hr.mono (by decide)) (by rfl) T.g_Filled T.i_Filled.b .nil pass0 (pa_cons (pe_call (okEarliest T) (hr.mono (by decide)) (by rfl) T.f_earliest.g T.f_earliest.F.kp T.f_earliest.b .nil pass0 (pa_cons (pv 0) pa_nil)) pa_nil))))))))), ?_⟩
    rcases h with ⟨l, rfl, hl, q1, q2⟩ | ⟨hn, q⟩
    · refine ⟨_, rfl, S l, rfl, .inl ⟨l, rfl, by omega, fun hrw => ?_, q1⟩⟩
      have q := q2 hrw
      refine ⟨_, rfl, St_ l, rfl, szS (by omega), _, _, rfl, rfl, (show (0 : Int) < 2 by decide), rfl, _, rfl, ?_⟩
      rw [d_int, len_S]
      by_cases he : l.length % 2 = 1
      · rw [decide_eq_true (by omega)]
        refine iteT fun x dx nx ndx ne => ?_
        refine q _ x .uneven ⟨dx, upd_same⟩ trivial (decide_eq_true he) (fun e => by rw [e] at he; cases he) ?_ nx
        exact (Same.new ndx).trans (Same.new (by rw [upd_ne ne.symm]; exact nx))
      · rw [decide_eq_false (by omega)]
        refine iteF ?_
        refine ⟨_, rfl, St_ l, rfl, szS (by omega), _, _, rfl, rfl, ?_⟩
        have er : (((St_ l).length : Int) + 1 - 1).toNat = l.length := by rw [len_S]; omega
        have e41 : (Str.ofString ")") = (⟨#[41]⟩ : Str) := by decide +kernel
        have e40 : (Str.ofString "(") = (⟨#[40]⟩ : Str) := by decide +kernel
        have sm3 : ∀ {H1 : Hp} {x dx : Addr} {o1 o2 o3 : HO}, Same H H1 → H1 x = none → H1 dx = none → Same H (upd (upd (upd H1 dx o1) x o2) x o3) := fun s nx ndx => ((s.mut (s.free ndx)).mut (s.free nx)).mut (s.free nx)
        refine ⟨_, _, rfl, (by rw [len_S]; omega), ?_⟩
        rw [er]
        refine for_range (lo := 1) (n := l.length) (fun i σ H' => ∃ x, σ = [some (S l), x] ∧ H' = H ∧ ∀ m, 1 ≤ m → m ≤ i → 2 * (l.take m).count 41 ≤ m) ⟨none, rfl, rfl, fun m h1 h2 => by omega⟩ ?_ ?_
        · rintro i σ H' hi ⟨x, rfl, rfl, hall⟩
          have e1 : (1 : Int) + (i : Int) = ((i + 1 : Nat) : Int) := by omega
          rw [e1]
          refine ⟨_, rfl, _, rfl, _, rfl, St_ l, rfl, szS (by omega), ?_⟩
          rw [cut_to]
          refine ⟨rfl, _, _, rfl, rfl, _, _, rfl, rfl, .inl ⟨by decide, by decide⟩, _, rfl, _, _, rfl, rfl, _, rfl, ?_⟩
          rw [e41, count_S]
          refine ite2 (fun h => ?_) (fun h => ?_)
          · have h : ((i + 1 : Nat) : Int) < 2 * (((l.take (i + 1)).count 41 : Nat) : Int) := of_decide_eq_true h
            refine ⟨_, rfl, fun x dx nx ndx ne => ⟨x, dx, _, rfl, upd_same, rfl, q _ x (.early (i + 1)) ⟨dx, upd_same⟩ trivial ?_ (fun e => by rw [e] at hi; cases hi) (sm3 (Same.refl _) nx ndx) nx⟩⟩
            show (decide _ && decide _) = true
            rw [decide_eq_true (by omega), decide_eq_true (by rw [Int.toNat_natCast]; exact h)]
            rfl
          · refine ⟨_, rfl, rfl, fun m h1 h2 => ?_⟩
            by_cases hm : m = i + 1
            · subst hm
              exact Nat.not_lt.mp fun hh => h (decide_eq_true (by omega))
            · exact hall m h1 (by omega)
        · rintro σ H' ⟨x, rfl, rfl, hall1⟩
          refine ⟨_, rfl, St_ l, rfl, szS (by omega), _, _, rfl, rfl, ?_⟩
          refine ⟨_, _, rfl, (by rw [len_S]; omega), ?_⟩
          rw [er]
          refine for_range (lo := 1) (n := l.length) (fun i σ H'' => ∃ x, σ = [some (S l), x] ∧ H'' = H' ∧ ∀ m, 1 ≤ m → m ≤ i → 2 * (l.drop (l.length - m)).count 40 ≤ m) ⟨x, rfl, rfl, fun m h1 h2 => by omega⟩ ?_ ?_
          · rintro i σ H'' hi ⟨x, rfl, rfl, hall⟩
            have e1 : (1 : Int) + (i : Int) = ((i + 1 : Nat) : Int) := by omega
            rw [e1]
            have ec : cutS (St_ l) (some (((St_ l).length : Int) - ((i + 1 : Nat) : Int))) none = St_ (l.drop (l.length - (i + 1))) := by
              rw [show ((St_ l).length : Int) - ((i + 1 : Nat) : Int) = ((l.length - (i + 1) : Nat) : Int) by rw [len_S]; omega, cut_from]
            refine ⟨_, rfl, _, rfl, St_ l, rfl, szS (by omega), _, rfl, _, _, rfl, rfl, _, rfl, St_ l, rfl, szS (by omega), ?_⟩
            refine ⟨rfl, _, _, rfl, rfl, _, _, rfl, rfl, .inl ⟨by decide, by decide⟩, _, rfl, _, _, rfl, rfl, _, rfl, ?_⟩
            rw [e40, ec, count_S]
            refine ite2 (fun h => ?_) (fun h => ?_)
            · have h : ((i + 1 : Nat) : Int) < 2 * (((l.drop (l.length - (i + 1))).count 40 : Nat) : Int) := of_decide_eq_true h
              refine ⟨_, rfl, fun x dx nx ndx ne => ⟨x, dx, _, rfl, upd_same, rfl, q _ x (.late (i + 1)) ⟨dx, upd_same⟩ trivial ?_ (fun e => by rw [e] at hi; cases hi) (sm3 (Same.refl _) nx ndx) nx⟩⟩
              show (decide _ && decide _) = true
              rw [decide_eq_true (by omega), decide_eq_true (by rw [Int.toNat_natCast]; exact h)]
              rfl
            · refine ⟨_, rfl, rfl, fun m h1 h2 => ?_⟩
              by_cases hm : m = i + 1
              · subst hm
                exact Nat.not_lt.mp fun hh => h (decide_eq_true (by omega))
              · exact hall m h1 (by omega)
          · rintro σ H'' ⟨x, rfl, rfl, hall2⟩
            obtain ⟨f1, f2⟩ := earliest_ok hrw (by omega) hall1 hall2
            refine ⟨_, rfl, l, rfl, by omega, f1, fun H2 s2 => ?_⟩
            refine fun x dx nx ndx ne => ⟨x, dx, _, rfl, upd_same, rfl, q _ x (.filled _) ⟨dx, upd_same⟩ ⟨(fillE_br l _ hrw).row, by rw [fillE_len]; omega⟩ f2 (fun _ => ⟨_, rfl⟩) (sm3 s2 nx ndx) (s2.free nx)⟩
    · exact ⟨_, rfl, v, rfl, .inr ⟨hn, q⟩⟩
end
end HT

set_option Elab.async false
set_option linter.all false
set_option maxRecDepth 100000
set_option maxHeartbeats 4000000
namespace HT
open PySem PySem.Spec PyProof.Rows L2 BR
local macro_rules | `(tactic| walk_at "sq") => `(tactic| first | exact SqL.of (by assumption) | exact SqL.of upd_same | exact SqT.of (by assumption) | exact SqT.of upd_same | assumption | exact Same.seq (by assumption) (by assumption) | exact Same.seq (Same.trans (by assumption) (by assumption)) (by assumption))
local macro_rules | `(tactic| walk_at "len") => `(tactic| (simp only [List.length_append, List.length_map, List.length_cons, List.length_nil, List.length_set, List.length_replicate, List.length_take, List.length_drop, List.length_reverse, List.length_range, dpi_len, dps_len, len_S]; omega))
local macro_rules | `(tactic| walk_at "g1") => `(tactic| first
  | refine ⟨_, rfl, ?_⟩
  | refine ⟨rfl, ?_⟩
  | refine ⟨_, _, rfl, rfl, @id.{0} _ (by first | decide | omega | exact ⟨by decide, by decide⟩ | exact .inr ⟨by decide, by decide⟩ | (show (0 : Int) < _; decide)), ?_⟩
  | refine ⟨_, _, rfl, rfl, ?_⟩
  | refine ⟨_, _, _, _, rfl, rfl, (by walk_at "sq"), (by first | exact atI_last _ _ | (with_reducible exact atI_nat (by assumption))), ?_⟩
  | refine ⟨.inl ⟨rfl, _, (by walk_at "sq")⟩, ?_⟩
  | refine ⟨_, _, rfl, (by first | exact .inl (by walk_at "sq") | exact .inr (by walk_at "sq")), ?_⟩
  | refine ⟨_, rfl, (by first | exact sz5 (by walk_at "len") | exact szS (by omega)), ?_⟩
  | refine ⟨_, _, _, rfl, rfl, (by assumption), sz5l (by walk_at "len"), ?_⟩)
local macro_rules | `(tactic| walk_at "go") => `(tactic| repeat walk_at "g1")
local macro_rules | `(tactic| walk_at "nxt") => `(tactic| (show tSeq Ends.nx _ _ _ _; refine nx_in ?_))

section
variable {P : Program} {w : World} {K : PySem.W.Frag} {mg : Str → Option Value} {base : Heap}
def spLawClosed (T : Txt K mg) : Sp := fun vs H Q _ => ∃ t, vs = [S t] ∧ t.length ≤ 90000 ∧ IsRow t ∧ ∀ H', Same H H' → Q (.bl (isClosed t)) H'
theorem okLawClosed (T : Txt K mg) : FnOk P w K mg base CX0 1 T.f__law_closed.a T.f__law_closed.fd ["_law_text"] (spLawClosed T) := by
  refine T.f__law_closed.F.ok scLawClosed (fun vs H Q E h => ?_) (fun cdv A outer s H vs Q E hr h => ?_)
  · obtain ⟨t, rfl, _⟩ := h
    rfl
  · obtain ⟨t, rfl, ht, hrw, q⟩ := h
    refine ⟨_, (pss_cons (ps_set (i := 1) scLawClosed.nd rfl (by first | exact Or.inl rfl | exact Or.inr rfl) pe_int)
      (pss_cons (ps_for PassesOwn.never rfl (pi_str (pv 0)) (pg_name (i := 2) scLawClosed.nd rfl (by first | exact Or.inl rfl | exact Or.inr rfl))
      (pss_cons (ps_set (i := 1) scLawClosed.nd rfl (by first | exact Or.inl rfl | exact Or.inr rfl) (pe_op op_add (pv 1) (pe_dget2 (hu_of hr) (pe_disp (pps_cons pe_str pe_int (pps_cons pe_str (pe_un un_neg pe_int) pps_nil)) (by rfl) (by rfl) (fun z => by cases z) (by decide)) (pv 2) (pe_op op_sub (pe_un un_neg (pe_callB call_len_str (by rfl) T.n_len PySem.boot_len (pa_cons (pv 0) pa_nil))) pe_int) ⟨rfl, rfl, rfl, rfl⟩)))
      (pss_one (ps_if (pt_cmpR op_lt (pv 1) pe_int (nomark _)) (pss_one (ps_ret pe_bl))
      pss_nil))))
      (pss_one (ps_ret (pe_cmpR op_eq (pv 1) pe_int (nomark _)))))), ?_⟩
    refine ⟨_, rfl, _, rfl, for_txt (l := t) (fun p σ H' => ∃ x2 d, σ = [some (S t), some (.int ((d : Nat) : Int)), x2] ∧ Same H H' ∧ run 0 p = some d) ⟨none, 0, rfl, Same.refl _, rfl⟩ ?_ ?_⟩
    · rintro p c r σ H' e ⟨x2, d, rfl, sm, hrun⟩
      have hc : c = 40 ∨ c = 41 ∨ c = 63 := hrw c (by rw [e]; simp)
      have hp : p.length + 1 ≤ t.length := by rw [e]; simp
      have hd := run_le p 0 d hrun
      -- what the sign tells
      obtain ⟨z, hz, hz2⟩ : ∃ z : Int, z = (if c = 40 then 1 else if c = 41 then -1 else -(t.length : Int) - 1) ∧ (∀ d' : Nat, run 0 (p ++ [c]) = some d' ↔ (0 ≤ (d : Int) + z ∧ (d' : Int) = d + z)) := by
        refine ⟨_, rfl, fun d' => ?_⟩
        rw [run_app, hrun]
        show run d [c] = some d' ↔ _
        rcases hc with rfl | rfl | rfl
        · show some (d + 1) = some d' ↔ _
          simp
          omega
        · cases d with
          | zero => show none = some d' ↔ _; simp
          | succ k => show some k = some d' ↔ _; simp; omega
        · show none = some d' ↔ _
          simp; omega
      refine sq_asg ⟨_, rfl, rd_oc2 (va := .int 1) (vb := .int (-1)) (z := .int (-(t.length : Int) - 1)) (c := c) (fun H Q q => q) (fun H Q q => ⟨1, rfl, q⟩) (fun H Q q => ⟨_, rfl, q⟩) (fun H' Q s q => ?_) fun H4 s4 => ?_⟩
      · refine ⟨_, rfl, St_ t, rfl, szS (by omega), _, rfl, _, _, rfl, rfl, ?_⟩
        rw [len_S]
        exact q
      rw [show (if c = 40 then V.int 1 else if c = 41 then V.int (-1) else V.int (-(t.length : Int) - 1)) = V.int z by
        rw [hz]
        by_cases h1 : c = 40
        · rw [if_pos h1, if_pos h1]
        · rw [if_neg h1, if_neg h1]
          by_cases h2 : c = 41
          · rw [if_pos h2, if_pos h2]
          · rw [if_neg h2, if_neg h2]]
      refine ⟨_, _, rfl, rfl, ?_⟩
      refine ⟨_, rfl, _, _, rfl, rfl, _, rfl, ite2 (fun h => ?_) (fun h => ?_)⟩
      · have h := of_decide_eq_true h
        have hn : run 0 (p ++ [c]) = none := by
          cases hx : run 0 (p ++ [c]) with
          | none => rfl
          | some d' => have := (hz2 d').mp hx; omega
        have hcl : isClosed t = false := notClosed hrw (by rw [show t = (p ++ [c]) ++ r by rw [e]; simp, run_more hn]; simp)
        have := q H4 (sm.trans s4)
        rw [hcl] at this
        exact this
      · have h0 : 0 ≤ (d : Int) + z := Int.not_lt.mp fun hh => h (decide_eq_true hh)
        exact ⟨_, ((d : Int) + z).toNat, by rw [Int.toNat_of_nonneg h0]; rfl, sm.trans s4, (hz2 _).mpr ⟨h0, Int.toNat_of_nonneg h0⟩⟩
    · rintro σ H' ⟨x2, d, rfl, sm, hrun⟩
      refine ⟨_, rfl, rfl, ?_⟩
      have := q H' sm
      rw [d_int]
      rwa [show isClosed t = decide ((d : Int) = 0) from ?_] at this
      rw [Bool.eq_iff_iff, isClosed_iff t hrw, hrun, decide_eq_true_eq, Option.some.injEq]
      omega
theorem in_two (c d : Nat) : inV (ch c) [V.str (Str.ofString "?"), ch d] = decide (c = 63 ∨ c = d) := by
  rw [lit_q]
  have e : ∀ a b : Nat, eqV (ch a) (ch b) = decide (a = b) := fun a b => by
    show (decide ((⟨#[a]⟩ : Str) = ⟨#[b]⟩)) = decide (a = b)
    rw [decide_eq_decide]
    constructor
    · intro h; have := congrArg (fun z : Str => z.cps.toList) h; simpa using this
    · intro h; rw [h]
  show (eqV (ch 63) (ch c) || (eqV (ch d) (ch c) || false)) = _
  rw [e, e, Bool.or_false, ← Bool.decide_or, decide_eq_decide]
  omega
theorem fits_range (l t : List Nat) (h : t.length = l.length) : ((List.range l.length).map fun k => decide (l.getD k 0 = 63 ∨ l.getD k 0 = t.getD k 0)).all id = fits l t := by
  unfold fits
  rw [← all_map_bl (fun p : Nat × Nat => decide (p.1 = 63 ∨ p.1 = p.2))]
  refine congrArg (fun z : List Bool => z.all id) ?_
  apply List.ext_getElem
  · simp [h]
  · intro i h1 h2
    simp at h1 h2
    simp [List.getD, h1, h]
def spLawFilling (T : Txt K mg) : Sp := fun vs H Q _ => ∃ l t, vs = [S l, S t] ∧ l.length ≤ 90000 ∧ t.length ≤ 90000 ∧ IsRow t ∧ ∀ H', Same H H' → Q (.bl (isFilling l t)) H'
theorem okLawFilling (T : Txt K mg) : FnOk P w K mg base CX0 2 T.f__law_filling.a T.f__law_filling.fd ["_law_row_here", "_law_text"] (spLawFilling T) := by
  refine T.f__law_filling.F.ok scLawFilling (fun vs H Q E h => ?_) (fun cdv A outer s H vs Q E hr h => ?_)
  · obtain ⟨l, t, rfl, _⟩ := h
    rfl
  · obtain ⟨l, t, rfl, hl, ht, hrw, q⟩ := h
    refine ⟨_, (pss_cons (ps_if (PW.pt (pw_or (pt_not (pt_val (pe_callB call_isi (by rfl) T.n_isinstance (by decide +kernel) (pa_cons (pv 1) (pa_cons (pe_bltn (v := .ty "str") (by rfl) T.n_str (by decide +kernel) rfl) pa_nil))))) (pw_or (pt_cmpR op_ne (pe_callB call_len_str (by rfl) T.n_len PySem.boot_len (pa_cons (pv 1) pa_nil)) (pe_callB call_len_str (by rfl) T.n_len PySem.boot_len (pa_cons (pv 0) pa_nil)) (nomark _)) (pw_or1 (pt_not (pt_val (pe_call (okLawClosed T) (hr.mono (by decide)) (by rfl) T.f__law_closed.g T.f__law_closed.F.kp T.f__law_closed.b .nil pass0 (pa_cons (pv 1) pa_nil)))))))) (pss_one (ps_ret pe_bl))
      pss_nil)
      (pss_one (ps_ret (pe_callB (cr_all rfl) (by rfl) T.n_all (by decide +kernel) (pa_cons (pe_lc (own := [("_law_at", 2)]) rfl scLawFilling.nd (pi_range1 (by rfl) T.n_range (pa_cons (pe_callB call_len_str (by rfl) T.n_len PySem.boot_len (pa_cons (pv 0) pa_nil)) pa_nil)) (blkOk_by (own := [("_law_at", 2)]) (N := ["_law_row_here", "_law_text", "_law_at"]) (sc := defScope sLawFilling) (by decide +kernel)) (fun _ _ _ _ _ => (pg_name (i := 2) scLawFilling.nd rfl (by first | exact Or.inl rfl | exact Or.inr rfl))) (fun _ _ _ _ _ => pts_nil) (fun _ _ _ _ _ => (pe_cmpR (r := rIn K false) op_in_seq (pe_ix ix_str (pv 0) (pv 2) (fun _ _ => rfl)) (pe_lst (pa_cons pe_str (pa_cons (pe_ix ix_str (pv 1) (pv 2) (fun _ _ => rfl)) pa_nil))) rfl))) pa_nil))))), ?_⟩
    have qb : ∀ b H', Same H H' → isFilling l t = b → Q (.bl b) H' := fun b H' s e => e ▸ q H' s
    refine ⟨_, rfl, _, _, _, _, true, rfl, .ty "str", .base (.str _), kit_ty (by decide +kernel), _, rfl, iteF ?_⟩
    refine ⟨_, rfl, St_ t, rfl, szS (by omega), _, rfl, St_ l, rfl, szS (by omega), rfl, _, rfl, ite2 (fun hc => ?_) (fun hc => ?_)⟩
    · refine qb _ _ (Same.refl _) ?_
      unfold isFilling
      rw [len_S, len_S, d_int] at hc
      rw [decide_eq_false (fun e => by rw [decide_eq_true (by exact_mod_cast e)] at hc; cases hc), Bool.false_and]
    · rw [len_S, len_S, d_int] at hc
      have hlen : t.length = l.length := Classical.byContradiction fun h => hc (by rw [decide_eq_false (by omega)]; rfl)
      refine ⟨_, rfl, t, rfl, ht, hrw, fun H1 s1 => ⟨_, rfl, ?_⟩⟩
      cases hcl : isClosed t with
      | false =>
        refine iteT (qb _ _ s1 ?_)
        unfold isFilling
        rw [hcl, Bool.false_and, Bool.and_false]
      | true =>
        refine iteF ?_
        refine ⟨_, rfl, St_ l, rfl, szS (by omega), _, rfl, (by rw [len_S]; omega), (by rw [len_S]; omega), fun D hD => lc_rangeY (n := l.length) (fun k => .bl (decide (l.getD k 0 = 63 ∨ l.getD k 0 = t.getD k 0))) hD (by omega) (fun _ => rfl) (fun k H' hk s' Q q => ?_) fun H2 s2 e2 => ?_⟩
        · have g1 : l[k]? = some (l.getD k 0) := by rw [List.getD, List.getElem?_eq_getElem hk]; rfl
          have g2 : t[k]? = some (t.getD k 0) := by rw [List.getD, List.getElem?_eq_getElem (by omega)]; rfl
          generalize l.getD k 0 = c at g1 q
          generalize t.getD k 0 = d at g2 q
          refine ⟨_, rfl, _, rfl, _, _, _, rfl, rfl, szS (by omega), atI_nat g1, _, rfl, _, rfl, _, _, _, rfl, rfl, szS (by omega), atI_nat g2, sz5 (by simp), fun p np => ?_⟩
          have := q (upd H' p (.lst [V.str (Str.ofString "?"), ch d])) (Same.new np)
          rw [← in_two] at this
          exact ⟨p, _, rfl, .inl (SqL.of upd_same), rfl, rfl, this⟩
        · refine ⟨D, (List.range l.length).map fun k => decide (l.getD k 0 = 63 ∨ l.getD k 0 = t.getD k 0), rfl, SqL.of (by rw [e2, List.map_map]; rfl), qb _ _ (s1.trans s2) ?_⟩
          rw [fits_range l t hlen]
          unfold isFilling
          rw [hcl, decide_eq_true hlen, Bool.true_and, Bool.true_and]
theorem at5 (z : Int) : ∃ m : Int, 0 < m ∧ atI [V.int 3, V.int 2, V.int 2, V.int 9, V.int 4] (z % 5) = some (.int m) := by
  have h0 := Int.emod_nonneg z (show (5 : Int) ≠ 0 by decide)
  have h1 := Int.emod_lt_of_pos z (show (0 : Int) < 5 by decide)
  obtain h | h | h | h | h : z % 5 = 0 ∨ z % 5 = 1 ∨ z % 5 = 2 ∨ z % 5 = 3 ∨ z % 5 = 4 := by omega
  · exact ⟨3, by decide, by rw [h]; rfl⟩
  · exact ⟨2, by decide, by rw [h]; rfl⟩
  · exact ⟨2, by decide, by rw [h]; rfl⟩
  · exact ⟨9, by decide, by rw [h]; rfl⟩
  · exact ⟨4, by decide, by rw [h]; rfl⟩
theorem row_snoc {t : List Nat} {c : Nat} (h : IsRow t) (hc : c = 40 ∨ c = 41 ∨ c = 63) : IsRow (t ++ [c]) := h.append (.one hc)
def spLawRow (T : Txt K mg) : Sp := fun vs H Q _ => ∃ (a : Addr) (ns : List Int), vs = [.ref a] ∧ SqL K H a (ns.map V.int) ∧ ns.length ≤ 63 ∧ ∀ H' t, IsRow t → t.length ≤ 63 → Same H H' → Q (S t) H'
theorem okLawRow (T : Txt K mg) : FnOk P w K mg base CX0 1 T.f__law_row.a T.f__law_row.fd ["_law_script"] (spLawRow T) := by
  refine T.f__law_row.F.ok scLawRow (fun vs H Q E h => ?_) (fun cdv A outer s H vs Q E hr h => ?_)
  · obtain ⟨a, ns, rfl, _⟩ := h
    rfl
  · obtain ⟨a, ns, rfl, hS, hl, q⟩ := h
    refine ⟨_, (pss_cons (ps_set (i := 1) scLawRow.nd rfl (by first | exact Or.inl rfl | exact Or.inr rfl) (pe_op op_mod (pe_callB (cr_sum rfl) (by rfl) T.n_sum (by decide +kernel) (pa_cons (pv 0) pa_nil)) pe_int))
      (pss_cons (ps_if (pt_cmpR op_eq (pv 1) pe_int (nomark _)) (pss_one (ps_ret (pe_join pe_str (pe_lc (own := [("_law_cell", 2)]) rfl scLawRow.nd (pi_list (pv 0)) (blkOk_by (own := [("_law_cell", 2)]) (N := ["_law_script", "_law_kind", "_law_cell", "_law_many", "_law_signs", "_law_depth", "_law_at", "_law_opens", "_law_sign"]) (sc := defScope sLawRow) (by decide +kernel)) (fun _ _ _ _ _ => (pg_name (i := 2) scLawRow.nd rfl (by first | exact Or.inl rfl | exact Or.inr rfl))) (fun _ _ _ _ _ => pts_nil) (fun _ _ _ _ _ => (pe_ix ix_str pe_str (pe_op op_mod (pv 2) pe_int) (fun _ _ => rfl)))))))
      pss_nil)
      (pss_cons (ps_set (i := 3) scLawRow.nd rfl (by first | exact Or.inl rfl | exact Or.inr rfl) (pe_op op_mul (pe_op op_fdiv (pe_callB call_len_seq (by rfl) T.n_len PySem.boot_len (pa_cons (pv 0) pa_nil)) pe_int) pe_int))
      (pss_cons (ps_set (i := 4) scLawRow.nd rfl (by first | exact Or.inl rfl | exact Or.inr rfl) (pe_lst pa_nil))
      (pss_cons (ps_set (i := 5) scLawRow.nd rfl (by first | exact Or.inl rfl | exact Or.inr rfl) pe_int)
      (pss_cons (ps_for PassesOwn.never rfl (pi_enum (by rfl) T.n_enumerate (pa_cons (pe_slice sl_list (pv 0) po_none (po_some (pv 3))) pa_nil)) (pg_tup rfl (pgs_cons (pg_name (i := 6) scLawRow.nd rfl (by first | exact Or.inl rfl | exact Or.inr rfl)) (pgs_cons (pg_name (i := 2) scLawRow.nd rfl (by first | exact Or.inl rfl | exact Or.inr rfl)) pgs_nil)))
      (pss_cons (ps_set (i := 7) scLawRow.nd rfl (by first | exact Or.inl rfl | exact Or.inr rfl) (pe_or (pe_cmpR op_eq (pv 5) pe_int (nomark _)) (pe_one (pe_and (pe_cmpR op_lt (pv 5) (pe_op op_sub (pv 3) (pv 6)) (nomark _)) (pe_one (pe_cmpR op_eq (pe_op op_mod (pv 2) pe_int) pe_int (nomark _)))))))
      (pss_cons (ps_set (i := 5) scLawRow.nd rfl (by first | exact Or.inl rfl | exact Or.inr rfl) (pe_ifExp (pt_val (pv 7)) (pe_op op_add (pv 5) pe_int) (pe_op op_sub (pv 5) pe_int)))
      (pss_cons (ps_set (i := 8) scLawRow.nd rfl (by first | exact Or.inl rfl | exact Or.inr rfl) (pe_ifExp (pt_val (pv 7)) pe_str pe_str))
      (pss_one (ps_expr (pe_bm PySem.F.plainAttrs_list PySem.F.slot_list_append PySem.F.type_list_append mt_append (pv 4) (pa_cons (pe_ifExp (pt_cmpR op_gt (pe_op op_mod (pe_op op_fdiv (pv 2) pe_int) (pe_ix ix_tup (pe_tup (pa_cons pe_int (pa_cons pe_int (pa_cons pe_int (pa_cons pe_int (pa_cons pe_int pa_nil)))))) (pv 1) (fun _ _ => rfl))) pe_int (nomark _)) pe_str (pv 8)) pa_nil))))))))
      (pss_cut2 (ps_if (PW.pt (pw_and (pt_cmpR op_eq (pv 1) pe_int (nomark _)) (pw_and1 (pt_cmpR (op_neD hr.units) (pv 4) (pe_lst pa_nil) (nomark _))))) (pss_one (ps_asg (pe_ix ix_str pe_str (pe_op op_mod (pe_ix ix_list (pv 0) pe_int (fun _ _ => rfl)) pe_int) (fun _ _ => rfl)) (pg_sub (pv 4) (pe_op op_mod (pe_op op_fdiv (pe_callB (cr_sum rfl) (by rfl) T.n_sum (by decide +kernel) (pa_cons (pv 0) pa_nil)) pe_int) (pv 3)) set_list)))
      pss_nil)
      (pss_one (ps_ret (pe_join pe_str (pv 4))))))))))), ?_⟩
    refine sq_set (.int (ns.sum % 5)) (fun Q q => ?_) ?_
    · refine ⟨_, rfl, a, ns, rfl, hS, ?_⟩
      walk_at "go"
      exact q
    refine ⟨_, rfl, rfl, _, rfl, ite2 (fun _ => ?_) (fun _ => ?_)⟩
    · refine ⟨⟨_, rfl⟩, _, rfl, a, rfl, ⟨_, hS⟩, fun D hD => lc_lstY (f := V.int) (xs := ns) (fun z => ch (pick3 (z % 3))) hD (by omega) hS (fun _ => rfl) (fun z H' _ s' Q q => ?_) fun H2 s2 e2 => ?_⟩
      · refine ⟨_, rfl, _, _, rfl, rfl, (show (0 : Int) < 3 by decide), _, _, _, rfl, rfl, sz5 (by decide), at3 z, q _ (Same.refl _)⟩
      · exact join_rd (t := ns.map fun z => pick3 (z % 3)) (SqL.of (by rw [e2, List.map_map]; rfl)) (by simp; omega) (q _ _ (fun c hc => by
          obtain ⟨z, _, rfl⟩ := List.mem_map.mp hc
          exact pick3_row _) (by simp; omega) s2)
    obtain ⟨M, hM⟩ : ∃ M, M = ns.length / 2 * 2 := ⟨_, rfl⟩
    walk_at "nxt"
    refine sq_set (.int (M : Int)) (fun Q q => ?_) ?_
    · have e2 : (((ns.map V.int).length : Nat) : Int) / 2 * 2 = (M : Int) := by rw [List.length_map, hM]; omega
      rw [← e2] at q
      walk_at "go"
      exact q
    refine ⟨Nat.zero_le _, fun o no => ?_⟩
    refine ⟨_, rfl, _, rfl, _, rfl, a, _, rfl, (Same.new no).seq hS, fun p1 np1 => ?_⟩
    have ne : o ≠ p1 := ne_of_none upd_same np1
    rw [cutV_to, ← List.map_take]
    refine ⟨p1, _, rfl, SqL.of upd_same, for_enL (K := K) (a := p1) (f := V.int) (xs := ns.take M) (fun p σ H' => ∃ x2 x6 x7 x8 t d, σ = [some (.ref a), some (.int (ns.sum % 5)), x2, some (.int (M : Int)), some (.ref o), some (.int d), x6, x7, x8] ∧ Same H H' ∧ H' p1 = some (.lst ((ns.take M).map V.int)) ∧ H' o = some (.lst (t.map ch)) ∧ IsRow t ∧ t.length = p.length)
      ⟨_, _, _, _, [], 0, rfl, (Same.new no).trans (Same.new np1), upd_same, by rw [upd_ne ne]; exact upd_same, fun c hc => (by cases hc), rfl⟩ (fun p σ H' ⟨_, _, _, _, _, _, _, _, h, _⟩ => SqL.of h) ?_ ?_⟩
    · rintro p c r σ H3 H4 e ⟨x2, x6, x7, x8, t, d, rfl, sm, g1, g2, hrw, hlen⟩ s34
      have hp : p.length < M := by
        have := congrArg List.length e
        rw [List.length_take, List.length_append, List.length_cons] at this
        omega
      have g1' := s34 _ _ g1
      have g2' := s34 _ _ g2
      have sm4 := sm.trans s34
      have n1 : H p1 = none := (Same.new no).free np1
      -- opens
      obtain ⟨b, hb⟩ : ∃ b : Bool, b = (decide (d = 0) || (decide (d < (M : Int) - (p.length : Nat)) && decide (c % 2 = 0))) := ⟨_, rfl⟩
      refine sq_set (.bl b) (fun Q q => ?_) ?_
      · rw [hb] at q
        refine ⟨_, rfl, rfl, _, rfl, ?_⟩
        rw [d_int]
        refine ite2 (fun h => ?_) (fun h => ?_)
        · rw [h] at q; exact q
        · rw [Bool.not_eq_true] at h
          rw [h] at q
          walk_at "go"
          refine ite2 (fun h1 => ?_) (fun h1 => ?_)
          · rw [h1] at q
            walk_at "go"
            rw [d_int]
            exact q
          · rw [Bool.not_eq_true] at h1
            rw [h1] at q
            exact q
      refine sq_set (.int (if b then d + 1 else d - 1)) (fun Q q => ?_) ?_
      · refine ⟨_, rfl, _, rfl, ?_⟩
        cases b with
        | true => refine iteT ?_; walk_at "go"; exact q
        | false => refine iteF ?_; walk_at "go"; exact q
      refine sq_set (ch (if b then 40 else 41)) (fun Q q => ?_) ?_
      · refine ⟨_, rfl, _, rfl, ?_⟩
        cases b with
        | true => exact iteT (by rw [lit_op]; exact q)
        | false => exact iteF (by rw [lit_cl]; exact q)
      have hsg : (if b then 40 else 41) = 40 ∨ (if b then 40 else 41) = 41 := by cases b <;> simp
      generalize (if b then 40 else 41) = sg at hsg
      obtain ⟨m5, hm0, hm5⟩ := at5 ns.sum
      refine ⟨_, rfl, .inl ⟨rfl, _, SqL.of g2'⟩, _, rfl, _, _, rfl, rfl, ?_⟩
      refine ⟨⟨by decide, by decide⟩, sz5 (by simp), fun pt npt => ?_⟩
      have st := Same.new npt (o := HO.tup [V.int 3, V.int 2, V.int 2, V.int 9, V.int 4])
      have g1t := st _ _ g1'
      have g2t := st _ _ g2'
      have smt := sm4.trans st
      refine ⟨_, rfl, pt, _, _, _, rfl, rfl, SqT.of upd_same, hm5, _, _, rfl, rfl, hm0, _, _, rfl, rfl, _, rfl, ite2 (fun _ => ?_) (fun _ => ?_)⟩
      · refine ⟨_, _, _, rfl, rfl, g2t, sz5l (by walk_at "len"), _, _, _, _, t ++ [63], _, rfl, smt.mut no, ?_, ?_, row_snoc hrw (by simp), by walk_at "len"⟩
        · rw [upd_ne ne.symm]; exact g1t
        · rw [upd_same, lit_q, List.map_append]; rfl
      · refine ⟨_, rfl, _, _, _, rfl, rfl, g2t, sz5l (by walk_at "len"), _, _, _, _, t ++ [sg], _, rfl, smt.mut no, ?_, ?_, row_snoc hrw (by omega), by walk_at "len"⟩
        · rw [upd_ne ne.symm]; exact g1t
        · rw [upd_same, List.map_append]; rfl
    · rintro σ H3 ⟨x2, x6, x7, x8, t, d, rfl, sm, g1, g2, hrw, hlen⟩
      have hlM : t.length = M := by rw [hlen, List.length_take]; omega
      refine ⟨fun σ' H' => ∃ t', σ' = [some (.ref a), some (.int (ns.sum % 5)), x2, some (.int (M : Int)), some (.ref o), some (.int d), x6, x7, x8] ∧ Same H H' ∧ H' o = some (.lst (t'.map ch)) ∧ IsRow t' ∧ t'.length = M, ?_, ?_⟩
      · refine ⟨_, rfl, rfl, _, rfl, ite2 (fun _ => ?_) (fun _ => ⟨t, rfl, sm, g2, hrw, hlM⟩)⟩
        refine ⟨_, rfl, Nat.zero_le _, fun pe npe => ?_⟩
        have se := Same.new npe (o := HO.lst [])
        refine rd_neNil hrw (SqL.of (se _ _ g2)) (SqL.of upd_same) ⟨_, rfl, ite2 (fun hne => ?_) (fun _ => ⟨t, rfl, sm.trans se, se _ _ g2, hrw, hlM⟩)⟩
        have hne : t ≠ [] := fun h => by rw [h] at hne; cases hne
        have hM0 : 0 < M := by rw [← hlM]; exact List.length_pos_iff.mpr hne
        have hns : 0 < ns.length := by omega
        have hS2 := se.seq (sm.seq hS)
        have hn0 : (ns.map V.int)[0]? = some (V.int (ns.head (List.length_pos_iff.mp hns))) := by
          cases ns with
          | nil => cases hns
          | cons x r => rfl
        generalize ns.head _ = hd at hn0
        obtain ⟨k, hk⟩ : ∃ k : Nat, ns.sum / 5 % (M : Int) = (k : Int) := ⟨(ns.sum / 5 % (M : Int)).toNat, by rw [Int.toNat_of_nonneg (Int.emod_nonneg _ (by omega))]⟩
        have hkM : k < M := by have := Int.emod_lt_of_pos (ns.sum / 5) (show (0 : Int) < (M : Int) by omega); omega
        refine ⟨_, rfl, a, _, 0, _, rfl, rfl, hS2, atI_nat (j := 0) hn0, _, _, rfl, rfl, (show (0 : Int) < 2 by decide), _, _, _, rfl, rfl, sz5 (by decide), at2 hd, ?_⟩
        refine ⟨_, rfl, _, rfl, a, ns, rfl, hS2, _, _, rfl, rfl, ⟨by decide, by decide⟩, _, rfl, _, _, rfl, rfl, (by show (0 : Int) < (M : Int); omega), ?_⟩
        refine ⟨o, _, (k : Int), k, rfl, congrArg V.int hk, se _ _ g2, ?_, ?_⟩
        · rw [List.length_map, hlM]; exact ixN_nat hkM
        · refine ⟨t.set k (if hd % 2 = 0 then 40 else 41), rfl, (sm.trans se).mut no, ?_, ?_, by rw [List.length_set]; exact hlM⟩
          · rw [upd_same, List.map_set]
          · intro c hc
            rcases List.mem_or_eq_of_mem_set hc with h | h
            · exact hrw c h
            · subst h; split <;> simp
      · rintro σ' H' ⟨t', rfl, sm', g', hr', hl'⟩
        exact ⟨⟨_, rfl⟩, _, rfl, join_rd (SqL.of g') (by omega) (q _ t' hr' (by omega) sm')⟩
end
end HT

set_option Elab.async false
set_option linter.all false
set_option maxRecDepth 100000
set_option maxHeartbeats 4000000
namespace HT
open PySem PySem.Spec PyProof.Rows L2 BR
local macro_rules | `(tactic| walk_at "sq") => `(tactic| first | exact SqL.of (by assumption) | exact SqL.of upd_same | exact SqT.of (by assumption) | exact SqT.of upd_same | assumption | exact Same.seq (by assumption) (by assumption) | exact Same.seq (Same.trans (by assumption) (by assumption)) (by assumption))
local macro_rules | `(tactic| walk_at "len") => `(tactic| (simp only [List.length_append, List.length_map, List.length_cons, List.length_nil, List.length_set, List.length_replicate, List.length_take, List.length_drop, List.length_reverse, List.length_range, dpi_len, dps_len, len_S]; omega))
local macro_rules | `(tactic| walk_at "g1") => `(tactic| first
  | refine ⟨_, rfl, ?_⟩
  | refine ⟨rfl, ?_⟩
  | refine ⟨_, _, rfl, rfl, @id.{0} _ (by first | decide | omega | exact ⟨by decide, by decide⟩ | exact .inr ⟨by decide, by decide⟩ | (show (0 : Int) < _; decide)), ?_⟩
  | refine ⟨_, _, rfl, rfl, ?_⟩
  | refine ⟨_, _, _, _, rfl, rfl, (by walk_at "sq"), (by first | exact atI_last _ _ | (with_reducible exact atI_nat (by assumption))), ?_⟩
  | refine ⟨.inl ⟨rfl, _, (by walk_at "sq")⟩, ?_⟩
  | refine ⟨_, _, rfl, (by first | exact .inl (by walk_at "sq") | exact .inr (by walk_at "sq")), ?_⟩
  | refine ⟨_, rfl, (by first | exact sz5 (by walk_at "len") | exact szS (by omega)), ?_⟩
  | refine ⟨_, _, _, rfl, rfl, (by assumption), sz5l (by walk_at "len"), ?_⟩)
local macro_rules | `(tactic| walk_at "go") => `(tactic| repeat walk_at "g1")
local macro_rules | `(tactic| walk_at "nxt") => `(tactic| (show tSeq Ends.nx _ _ _ _; refine nx_in ?_))

section
variable {P : Program} {w : World} {K : PySem.W.Frag} {mg : Str → Option Value} {base : Heap}
def spLawDue (T : Txt K mg) : Sp := fun vs H Q _ => ∃ (l : List Nat) (x : Addr) (a : Ans), vs = [S l, .ref x] ∧ AnsAt T H x a ∧ ansFit a ∧ l.length ≤ 90000 ∧ ∀ H', Same H H' → Q (.bl (ansSays l a)) H'
theorem okLawDue (T : Txt K mg) : FnOk P w K mg base CX0 3 T.f__law_due.a T.f__law_due.fd ["_law_row_here", "_law_found"] (spLawDue T) := by
  refine T.f__law_due.F.ok scLawDue (fun vs H Q E h => ?_) (fun cdv A outer s H vs Q E hr h => ?_)
  · obtain ⟨l, x, a, rfl, _⟩ := h
    rfl
  · obtain ⟨l, x, a, rfl, hx, hf, hl, q⟩ := h
    refine ⟨_, (pss_cons (ps_if (pt_val (pe_callB call_isi (by rfl) T.n_isinstance (by decide +kernel) (pa_cons (pv 1) (pa_cons (pe_glob (v := .ref T.c_Filled) (by rfl) T.g_Filled rfl) pa_nil)))) (pss_one (ps_ret (pe_call (okLawFilling T) (hr.mono (by decide)) (by rfl) T.f__law_filling.g T.f__law_filling.F.kp T.f__law_filling.b .nil pass0 (pa_cons (pv 0) (pa_cons (pe_fld (pv 1) rfl) pa_nil)))))
      pss_nil)
      (pss_cons (ps_if (pt_val (pe_callB call_isi (by rfl) T.n_isinstance (by decide +kernel) (pa_cons (pv 1) (pa_cons (pe_glob (v := .ref T.c_Uneven) (by rfl) T.g_Uneven rfl) pa_nil)))) (pss_one (ps_ret (pe_cmpR op_eq (pe_op op_mod (pe_callB call_len_str (by rfl) T.n_len PySem.boot_len (pa_cons (pv 0) pa_nil)) pe_int) pe_int (nomark _))))
      pss_nil)
      (pss_cons (ps_if (pt_not (pt_chain op_le op_le pe_int (pe_fld (pv 1) rfl) (pe_callB call_len_str (by rfl) T.n_len PySem.boot_len (pa_cons (pv 0) pa_nil)))) (pss_one (ps_ret pe_bl))
      pss_nil)
      (pss_cons (ps_if (pt_val (pe_callB call_isi (by rfl) T.n_isinstance (by decide +kernel) (pa_cons (pv 1) (pa_cons (pe_glob (v := .ref T.c_Early) (by rfl) T.g_Early rfl) pa_nil)))) (pss_one (ps_ret (pe_cmpR op_gt (pe_op op_mul pe_int (pe_bm PySem.F.plainAttrs_str PySem.F.slot_str_count PySem.F.type_str_count mt_count (pe_slice sl_str (pv 0) po_none (po_some (pe_fld (pv 1) rfl))) (pa_cons pe_str pa_nil))) (pe_fld (pv 1) rfl) (nomark _))))
      pss_nil)
      (pss_one (ps_ret (pe_cmpR op_gt (pe_op op_mul pe_int (pe_bm PySem.F.plainAttrs_str PySem.F.slot_str_count PySem.F.type_str_count mt_count (pe_slice sl_str (pv 0) (po_some (pe_op op_sub (pe_callB call_len_str (by rfl) T.n_len PySem.boot_len (pa_cons (pv 0) pa_nil)) (pe_fld (pv 1) rfl))) po_none) (pa_cons pe_str pa_nil))) (pe_fld (pv 1) rfl) (nomark _)))))))), ?_⟩
    have e41 : (Str.ofString ")") = (⟨#[41]⟩ : Str) := by decide +kernel
    have e40 : (Str.ofString "(") = (⟨#[40]⟩ : Str) := by decide +kernel
    have qb : ∀ b, ansSays l a = b → Q (.bl b) H := fun b e => e ▸ q H (Same.refl _)
    cases a with
    | filled t =>
      obtain ⟨dx, h⟩ := hx
      refine ⟨_, rfl, _, _, _, _, true, rfl, .own _, T.o_Filled.ty h, T.ke_Filled_Filled, _, rfl, iteT ?_⟩
      exact ⟨_, rfl, _, rfl, x, _, dx, _, _, rfl, h, T.o_Filled.cl, T.na_Filled_text, lk1 _ _, l, t, rfl, hl, hf.2, hf.1, q⟩
    | uneven =>
      obtain ⟨dx, h⟩ := hx
      refine ⟨_, rfl, _, _, _, _, false, rfl, .own _, T.o_Uneven.ty h, T.ke_Uneven_Filled, _, rfl, iteF ?_⟩
      refine ⟨_, rfl, _, _, _, _, true, rfl, .own _, T.o_Uneven.ty h, T.ke_Uneven_Uneven, _, rfl, iteT ?_⟩
      refine ⟨_, rfl, St_ l, rfl, szS (by omega), _, _, rfl, rfl, (show (0 : Int) < 2 by decide), rfl, qb _ ?_⟩
      rw [d_int, len_S]
      show decide (l.length % 2 = 1) = _
      rw [decide_eq_decide]; omega
    | early m =>
      obtain ⟨dx, h⟩ := hx
      have hm : (fdMany m).lookup ("many" : Str) = some (.int (m : Nat)) := lk1 _ _
      refine ⟨_, rfl, _, _, _, _, false, rfl, .own _, T.o_Early.ty h, T.ke_Early_Filled, _, rfl, iteF ?_⟩
      refine ⟨_, rfl, _, _, _, _, false, rfl, .own _, T.o_Early.ty h, T.ke_Early_Uneven, _, rfl, iteF ?_⟩
      refine ⟨_, rfl, x, _, dx, _, _, rfl, h, T.o_Early.cl, T.na_Early_many, hm, ?_⟩
      refine ⟨_, _, rfl, rfl, _, rfl, ?_⟩
      rw [decide_eq_true (show (0 : Int) ≤ (m : Int) by omega)]
      refine iteT ⟨_, rfl, St_ l, rfl, szS (by omega), _, _, rfl, rfl, _, rfl, ite2 (fun h1 => ?_) (fun h1 => ?_)⟩
      · refine qb _ ?_
        have h1 : ¬ (m : Int) ≤ ((St_ l).length : Int) := fun h => by rw [decide_eq_true h] at h1; cases h1
        rw [len_S] at h1
        show closesTooMuch l m = _
        unfold closesTooMuch
        rw [decide_eq_false (fun h => h1 h.2), Bool.false_and]
      · have h1 : (m : Int) ≤ ((St_ l).length : Int) := Classical.byContradiction fun h => h1 (by rw [decide_eq_false h]; rfl)
        rw [len_S] at h1
        refine ⟨_, rfl, _, _, _, _, true, rfl, .own _, T.o_Early.ty h, T.ke_Early_Early, _, rfl, iteT ?_⟩
        refine ⟨_, rfl, _, rfl, x, _, dx, _, _, rfl, h, T.o_Early.cl, T.na_Early_many, hm, _, rfl, St_ l, rfl, szS (by omega), ?_⟩
        rw [cut_to]
        refine ⟨rfl, _, _, rfl, rfl, _, _, rfl, rfl, .inl ⟨by decide, by decide⟩, _, rfl, x, _, dx, _, _, rfl, h, T.o_Early.cl, T.na_Early_many, hm, _, _, rfl, rfl, qb _ ?_⟩
        rw [e41, count_S]
        show closesTooMuch l m = _
        unfold closesTooMuch
        rw [decide_eq_true ⟨by omega, h1⟩, Bool.true_and, Int.toNat_natCast]
    | late m =>
      obtain ⟨dx, h⟩ := hx
      have hm : (fdMany m).lookup ("many" : Str) = some (.int (m : Nat)) := lk1 _ _
      refine ⟨_, rfl, _, _, _, _, false, rfl, .own _, T.o_Late.ty h, T.ke_Late_Filled, _, rfl, iteF ?_⟩
      refine ⟨_, rfl, _, _, _, _, false, rfl, .own _, T.o_Late.ty h, T.ke_Late_Uneven, _, rfl, iteF ?_⟩
      refine ⟨_, rfl, x, _, dx, _, _, rfl, h, T.o_Late.cl, T.na_Late_many, hm, ?_⟩
      refine ⟨_, _, rfl, rfl, _, rfl, ?_⟩
      rw [decide_eq_true (show (0 : Int) ≤ (m : Int) by omega)]
      refine iteT ⟨_, rfl, St_ l, rfl, szS (by omega), _, _, rfl, rfl, _, rfl, ite2 (fun h1 => ?_) (fun h1 => ?_)⟩
      · refine qb _ ?_
        have h1 : ¬ (m : Int) ≤ ((St_ l).length : Int) := fun h => by rw [decide_eq_true h] at h1; cases h1
        rw [len_S] at h1
        show opensTooMuch l m = _
        unfold opensTooMuch
        rw [decide_eq_false (fun h => h1 h.2), Bool.false_and]
      · have h1 : (m : Int) ≤ ((St_ l).length : Int) := Classical.byContradiction fun h => h1 (by rw [decide_eq_false h]; rfl)
        rw [len_S] at h1
        have ek : ((St_ l).length : Int) - (m : Int) = ((l.length - m : Nat) : Int) := by rw [len_S]; omega
        have ec : cutS (St_ l) (some (((St_ l).length : Int) - (m : Int))) none = St_ (l.drop (l.length - m)) := by rw [ek, cut_from]
        refine ⟨_, rfl, _, _, _, _, false, rfl, .own _, T.o_Late.ty h, T.ke_Late_Early, _, rfl, iteF ?_⟩
        refine ⟨_, rfl, _, rfl, St_ l, rfl, szS (by omega), _, rfl, x, _, dx, _, _, rfl, h, T.o_Late.cl, T.na_Late_many, hm, _, _, rfl, rfl, _, rfl, St_ l, rfl, szS (by omega), ?_⟩
        refine ⟨rfl, _, _, rfl, rfl, _, _, rfl, rfl, .inl ⟨by decide, by decide⟩, _, rfl, x, _, dx, _, _, rfl, h, T.o_Late.cl, T.na_Late_many, hm, _, _, rfl, rfl, qb _ ?_⟩
        rw [e40, ec, count_S]
        show opensTooMuch l m = _
        unfold opensTooMuch
        rw [decide_eq_true ⟨by omega, h1⟩, Bool.true_and, Int.toNat_natCast]
def ansC (T : Txt K mg) : Ans → Addr
  | .filled _ => T.c_Filled
  | .uneven => T.c_Uneven
  | .early _ => T.c_Early
  | .late _ => T.c_Late
def isF : Ans → Bool
  | .filled _ => true
  | _ => false
def isU : Ans → Bool
  | .uneven => true
  | _ => false
def isE : Ans → Bool
  | .early _ => true
  | _ => false
def isL : Ans → Bool
  | .late _ => true
  | _ => false
theorem ans_ty {T : Txt K mg} {H : Hp} {x : Addr} {a : Ans} (h : AnsAt T H x a) : TyX K H (.ref x) (.ref (ansC T a)) := by
  cases a <;> obtain ⟨dx, h⟩ := h
  · exact T.o_Filled.ty h
  · exact T.o_Uneven.ty h
  · exact T.o_Early.ty h
  · exact T.o_Late.ty h
theorem ans_F (T : Txt K mg) (a : Ans) : PySem.W.kitOne K (.ref (ansC T a)) (.ref T.c_Filled) = some (isF a) := by
  cases a
  · exact T.ke_Filled_Filled
  · exact T.ke_Uneven_Filled
  · exact T.ke_Early_Filled
  · exact T.ke_Late_Filled
theorem ans_U (T : Txt K mg) (a : Ans) : PySem.W.kitOne K (.ref (ansC T a)) (.ref T.c_Uneven) = some (isU a) := by
  cases a
  · exact T.ke_Filled_Uneven
  · exact T.ke_Uneven_Uneven
  · exact T.ke_Early_Uneven
  · exact T.ke_Late_Uneven
theorem ans_E (T : Txt K mg) (a : Ans) : PySem.W.kitOne K (.ref (ansC T a)) (.ref T.c_Early) = some (isE a) := by
  cases a
  · exact T.ke_Filled_Early
  · exact T.ke_Uneven_Early
  · exact T.ke_Early_Early
  · exact T.ke_Late_Early
theorem ans_L (T : Txt K mg) (a : Ans) : PySem.W.kitOne K (.ref (ansC T a)) (.ref T.c_Late) = some (isL a) := by
  cases a
  · exact T.ke_Filled_Late
  · exact T.ke_Uneven_Late
  · exact T.ke_Early_Late
  · exact T.ke_Late_Late
theorem ans_A (T : Txt K mg) (a : Ans) : PySem.W.kitOne K (.ref (ansC T a)) (.ref T.c_Answer) = some true := by
  cases a
  · exact T.ke_Filled_Answer
  · exact T.ke_Uneven_Answer
  · exact T.ke_Early_Answer
  · exact T.ke_Late_Answer
theorem ans_C (T : Txt K mg) (a : Ans) : PySem.W.kitOne K (.ref (ansC T a)) (.ref T.c_Cheapest) = some false := by
  cases a
  · exact T.ke_Filled_Cheapest
  · exact T.ke_Uneven_Cheapest
  · exact T.ke_Early_Cheapest
  · exact T.ke_Late_Cheapest
theorem ans_count (a : Ans) : (([V.bl (isF a), V.bl (isU a)] ++ [V.bl (isE a), V.bl (isL a)]).countP fun z => eqV z (.bl true)) = 1 := by
  cases a <;> rfl
def spLaw (T : Txt K mg) : Sp := fun vs H Q _ => ∃ (a : Addr) (ns : List Int), vs = [.ref a] ∧ SqL K H a (ns.map V.int) ∧ ns.length ≤ 63 ∧ ∀ H', Q (.bl true) H'
theorem okLaw (T : Txt K mg) {fa : Addr} {fd : FuncData} (F : Fun K "law" "law" sLaw fa fd) : FnOk P w K mg base CX0 5 fa fd ["_law_script"] (spLaw T) := by
  refine F.ok scLaw (fun vs H Q E h => ?_) (fun cdv A outer s H vs Q E hr h => ?_)
  · obtain ⟨a, ns, rfl, _⟩ := h
    rfl
  · obtain ⟨a, ns, rfl, hS, hlen, q⟩ := h
    refine ⟨_, (pss_cons (ps_set (i := 1) scLaw.nd rfl (by first | exact Or.inl rfl | exact Or.inr rfl) (pe_call (okLawRow T) (hr.mono (by decide)) (by rfl) T.f__law_row.g T.f__law_row.F.kp T.f__law_row.b .nil pass0 (pa_cons (pv 0) pa_nil)))
      (pss_cut2 (ps_if (pt_cmpR op_eq (pe_op op_mod (pe_callB (cr_sum rfl) (by rfl) T.n_sum (by decide +kernel) (pa_cons (pv 0) pa_nil)) pe_int) pe_int (nomark _)) (pss_one (ps_set (i := 1) scLaw.nd rfl (by first | exact Or.inl rfl | exact Or.inr rfl) (pe_op op_mulS (pv 1) (pe_op op_add pe_int (pe_op op_mod (pe_op op_fdiv (pe_callB (cr_sum rfl) (by rfl) T.n_sum (by decide +kernel) (pa_cons (pv 0) pa_nil)) pe_int) pe_int)))))
      pss_nil)
      (pss_cons (ps_for PassesOwn.never rfl (pi_list (pe_lst (pa_cons (pv 1) (pa_cons (pe_op op_add_str (pv 1) pe_str) (pa_cons (pe_op op_add_str pe_str (pv 1)) (pa_cons (pe_slice sl_str (pv 1) (po_some pe_int) (po_some (pe_un un_neg pe_int))) (pa_cons (pv 1) pa_nil))))))) (pg_name (i := 2) scLaw.nd rfl (by first | exact Or.inl rfl | exact Or.inr rfl))
      (pss_cons (ps_set (i := 3) scLaw.nd rfl (by first | exact Or.inl rfl | exact Or.inr rfl) (pe_call (okFilled T) (hr.mono (by decide)) (by rfl) T.f_filled.g T.f_filled.F.kp T.f_filled.b .nil passLN (pa_cons (pv 2) pa_nil)))
      (pss_cons (ps_set (i := 4) scLaw.nd rfl (by first | exact Or.inl rfl | exact Or.inr rfl) (pe_lst (pa_cons (pe_callB call_isi (by rfl) T.n_isinstance (by decide +kernel) (pa_cons (pv 3) (pa_cons (pe_glob (v := .ref T.c_Filled) (by rfl) T.g_Filled rfl) pa_nil))) (pa_cons (pe_callB call_isi (by rfl) T.n_isinstance (by decide +kernel) (pa_cons (pv 3) (pa_cons (pe_glob (v := .ref T.c_Uneven) (by rfl) T.g_Uneven rfl) pa_nil))) pa_nil))))
      (pss_cons (ps_set (i := 4) scLaw.nd rfl (by first | exact Or.inl rfl | exact Or.inr rfl) (pe_op op_cat (pv 4) (pe_lst (pa_cons (pe_callB call_isi (by rfl) T.n_isinstance (by decide +kernel) (pa_cons (pv 3) (pa_cons (pe_glob (v := .ref T.c_Early) (by rfl) T.g_Early rfl) pa_nil))) (pa_cons (pe_callB call_isi (by rfl) T.n_isinstance (by decide +kernel) (pa_cons (pv 3) (pa_cons (pe_glob (v := .ref T.c_Late) (by rfl) T.g_Late rfl) pa_nil))) pa_nil)))))
      (pss_cons (ps_if (PW.pt (pw_or (pt_not (pt_val (pe_callB call_isi (by rfl) T.n_isinstance (by decide +kernel) (pa_cons (pv 3) (pa_cons (pe_glob (v := .ref T.c_Answer) (by rfl) T.g_Answer rfl) pa_nil))))) (pw_or (pt_val (pe_callB call_isi (by rfl) T.n_isinstance (by decide +kernel) (pa_cons (pv 3) (pa_cons (pe_glob (v := .ref T.c_Cheapest) (by rfl) T.g_Cheapest rfl) pa_nil)))) (pw_or1 (pt_cmpR op_ne (pe_bm PySem.F.plainAttrs_list PySem.F.slot_list_count PySem.F.type_list_count mt_lcountV (pv 4) (pa_cons pe_bl pa_nil)) pe_int (nomark _)))))) (pss_one (ps_ret pe_bl))
      pss_nil)
      (pss_cut2 (ps_if (PW.pt (pw_or (pt_val (pe_callB call_isi (by rfl) T.n_isinstance (by decide +kernel) (pa_cons (pv 3) (pa_cons (pe_glob (v := .ref T.c_Early) (by rfl) T.g_Early rfl) pa_nil)))) (pw_or1 (pt_val (pe_callB call_isi (by rfl) T.n_isinstance (by decide +kernel) (pa_cons (pv 3) (pa_cons (pe_glob (v := .ref T.c_Late) (by rfl) T.g_Late rfl) pa_nil))))))) (pss_one (ps_if (PW.pt (pw_or (pt_val (pe_callB call_isi (by rfl) T.n_isinstance (by decide +kernel) (pa_cons (pe_fld (pv 3) rfl) (pa_cons (pe_bltn (v := .ty "bool") (by rfl) T.n_bool (by decide +kernel) rfl) pa_nil)))) (pw_or1 (pt_not (pt_val (pe_callB call_isi (by rfl) T.n_isinstance (by decide +kernel) (pa_cons (pe_fld (pv 3) rfl) (pa_cons (pe_bltn (v := .ty "int") (by rfl) T.n_int (by decide +kernel) rfl) pa_nil)))))))) (pss_one (ps_ret pe_bl))
      pss_nil))
      pss_nil)
      (pss_cons (ps_if (PW.pt (pw_or (pt_not (pt_val (pe_call (okLawDue T) (hr.mono (by decide)) (by rfl) T.f__law_due.g T.f__law_due.F.kp T.f__law_due.b .nil pass0 (pa_cons (pv 2) (pa_cons (pv 3) pa_nil))))) (pw_or1 (pt_cmpR op_isnot_bl (pe_methX (S := ShowsOf T) (pv 3) (showsX T) (hr.mono (by decide)) pass0 (pa_cons (pv 2) pa_nil)) pe_bl (nomark _))))) (pss_one (ps_ret pe_bl))
      pss_nil)
      (pss_one (ps_for PassesOwn.never rfl (pi_list (pe_lst (pa_cons (pe_revS (pv 2)) (pa_cons (pe_slice sl_str (pv 2) (po_some pe_int) po_none) (pa_cons (pe_op op_add_str (pv 2) pe_str) pa_nil))))) (pg_name (i := 5) scLaw.nd rfl (by first | exact Or.inl rfl | exact Or.inr rfl))
      (pss_cons (ps_set (i := 6) scLaw.nd rfl (by first | exact Or.inl rfl | exact Or.inr rfl) (pe_methX (S := ShowsOf T) (pv 3) (showsX T) (hr.mono (by decide)) pass0 (pa_cons (pv 5) pa_nil)))
      (pss_one (ps_if (PW.pt (pw_or (pt_not (pt_val (pe_callB call_isi (by rfl) T.n_isinstance (by decide +kernel) (pa_cons (pv 6) (pa_cons (pe_bltn (v := .ty "bool") (by rfl) T.n_bool (by decide +kernel) rfl) pa_nil))))) (pw_or1 (pt_cmpR op_ne (pv 6) (pe_call (okLawDue T) (hr.mono (by decide)) (by rfl) T.f__law_due.g T.f__law_due.F.kp T.f__law_due.b .nil pass0 (pa_cons (pv 5) (pa_cons (pv 3) pa_nil))) (nomark _))))) (pss_one (ps_ret pe_bl))
      pss_nil))))))))))))
      (pss_one (ps_ret (pe_callB call_isi (by rfl) T.n_isinstance (by decide +kernel) (pa_cons (pe_call (okFilled T) (hr.mono (by decide)) (by rfl) T.f_filled.g T.f_filled.F.kp T.f_filled.b .nil passLN (pa_cons pe_str pa_nil)) (pa_cons (pe_glob (v := .ref T.c_Filled) (by rfl) T.g_Filled rfl) pa_nil)))))))), ?_⟩
    refine ⟨_, rfl, a, ns, rfl, hS, hlen, fun H1 l hrow hl s1 => ?_⟩
    have hS1 := s1.seq hS
    refine ⟨fun σ' H' => ∃ l', σ' = [some (.ref a), some (S l'), none, none, none, none, none] ∧ H' = H1 ∧ IsRow l' ∧ l'.length ≤ 300, ?_, ?_⟩
    · refine ⟨_, rfl, a, ns, rfl, hS1, ?_⟩
      walk_at "go"
      refine ite2 (fun _ => ?_) (fun _ => ⟨l, rfl, rfl, hrow, by omega⟩)
      obtain ⟨k, hk, hk4⟩ : ∃ k : Nat, 2 + ns.sum / 7 % 3 = (k : Int) ∧ k ≤ 4 := ⟨(2 + ns.sum / 7 % 3).toNat, by omega, by omega⟩
      obtain ⟨m1, m2⟩ := mul_row hrow k
      have hkl : k * l.length ≤ 4 * 63 := Nat.mul_le_mul hk4 hl
      refine s_set (S (List.replicate k l).flatten) (fun Q q => ?_) ⟨_, rfl, rfl, m1, by omega⟩
      refine ⟨_, rfl, _, rfl, a, ns, rfl, hS1, ?_⟩
      walk_at "go"
      have q : Q (.str (St_ (List.replicate k l).flatten)) H1 := q
      rw [← mul_S, ← hk] at q
      exact ⟨(by rw [hk]; exact mulOk_S l k (by rw [Nat.mul_comm]; omega) (by omega)), q⟩
    · rintro σ' H' ⟨l', rfl, rfl, hrow', hl'⟩
      have hrows : ∀ d ∈ [l', l' ++ [63], [63] ++ l', (l'.drop 1).take (l'.length - 2), l'], IsRow d ∧ d.length ≤ 400 := by
        intro d hd
        simp only [List.mem_cons, List.not_mem_nil, or_false] at hd
        rcases hd with rfl | rfl | rfl | rfl | rfl
        · exact ⟨hrow', by omega⟩
        · exact ⟨hrow'.append (.one (by simp)), by walk_at "len"⟩
        · exact ⟨IsRow.append (.one (by simp)) hrow', by walk_at "len"⟩
        · exact ⟨(hrow'.drop 1).take _, by rw [List.length_take, List.length_drop]; omega⟩
        · exact ⟨hrow', by omega⟩
      refine sq_for_lst (cons_val (S l') (fun Q q => ⟨_, rfl, q⟩)
        (cons_val (S (l' ++ [63])) (fun Q q => ⟨_, rfl, _, _, rfl, rfl, by rw [lit_q, len_S, len_S]; exact sz5 (by simp; omega), by rw [lit_q, add_S]; exact q⟩)
        (cons_val (S ([63] ++ l')) (fun Q q => ⟨_, rfl, _, _, rfl, rfl, by rw [lit_q, len_S, len_S]; exact sz5 (by simp; omega), by rw [lit_q, add_S]; exact q⟩)
        (cons_val (S ((l'.drop 1).take (l'.length - 2))) (fun Q q => ⟨_, rfl, _, rfl, _, rfl, _, rfl, St_ l', rfl, szS (by omega), by
            have e := cut_neg l'
            show Q (.str (cutS (St_ l') (some 1) (some (-1)))) H'
            rw [e]; exact q⟩)
        (cons_val (S l') (fun Q q => ⟨_, rfl, q⟩) (nil_val ⟨sz5 (by simp), fun p0 np0 => ⟨p0, rfl, ⟨_, SqL.of upd_same⟩, ?_⟩⟩))))))
      refine for_lstM (K := K) (a := p0) (f := S) (xs := [l', l' ++ [63], [63] ++ l', (l'.drop 1).take (l'.length - 2), l']) (fun p σ H2 => ∃ x2 x3 x4 x5 x6, σ = [some (.ref a), some (S l'), x2, x3, x4, x5, x6] ∧ H2 p0 = some (.lst ([l', l' ++ [63], [63] ++ l', (l'.drop 1).take (l'.length - 2), l'].map S)))
        ⟨_, _, _, _, _, rfl, upd_same⟩ (fun p σ H2 ⟨_, _, _, _, _, _, h⟩ => SqL.of h) ?_ ?_
      · rintro p d r σ H2 e ⟨x2, x3, x4, x5, x6, rfl, h0⟩
        obtain ⟨hd, hdl⟩ := hrows d (by rw [e]; simp)
        refine ⟨_, rfl, S d, rfl, .inl ⟨d, rfl, by omega, fun h => absurd hd h, fun _ H3 x an hat hfit hsay _ s3 nx => ?_⟩⟩
        have h03 := s3 _ _ h0
        walk_at "nxt"
        refine sq_asg (lst_in (cons_val (.bl (isF an)) (fun Q q => ⟨_, rfl, _, _, _, _, isF an, rfl, .own _, ans_ty hat, ans_F T an, q⟩)
          (cons_val (.bl (isU an)) (fun Q q => ⟨_, rfl, _, _, _, _, isU an, rfl, .own _, ans_ty hat, ans_U T an, q⟩) (nil_val ⟨sz5 (by simp), fun p1 np1 => ?_⟩))))
        have hat1 := hat.keep (Same.new np1 (o := HO.lst [V.bl (isF an), V.bl (isU an)]))
        refine sq_asg ⟨_, rfl, lst_in (cons_val (.bl (isE an)) (fun Q q => ⟨_, rfl, _, _, _, _, isE an, rfl, .own _, ans_ty hat1, ans_E T an, q⟩)
          (cons_val (.bl (isL an)) (fun Q q => ⟨_, rfl, _, _, _, _, isL an, rfl, .own _, ans_ty hat1, ans_L T an, q⟩) (nil_val ⟨sz5 (by simp), fun p2 np2 => ?_⟩)))⟩
        have s12 := (Same.new np1 (o := HO.lst [V.bl (isF an), V.bl (isU an)])).trans (Same.new np2 (o := HO.lst [V.bl (isE an), V.bl (isL an)]))
        refine ⟨p1, p2, _, _, rfl, rfl, Same.new np2 _ _ upd_same, upd_same, sz5 (by simp), fun p3 np3 => ?_⟩
        have s13 := s12.trans (Same.new np3 (o := HO.lst ([V.bl (isF an), V.bl (isU an)] ++ [V.bl (isE an), V.bl (isL an)])))
        have hat3 := hat.keep s13
        have h033 := s13 _ _ h03
        have hk3 : upd (upd (upd H3 p1 (.lst [V.bl (isF an), V.bl (isU an)])) p2 (.lst [V.bl (isE an), V.bl (isL an)])) p3 (.lst ([V.bl (isF an), V.bl (isU an)] ++ [V.bl (isE an), V.bl (isL an)])) p3 = some (.lst ([V.bl (isF an), V.bl (isU an)] ++ [V.bl (isE an), V.bl (isL an)])) := upd_same
        generalize upd (upd (upd H3 p1 _) p2 _) p3 _ = H4 at *
        refine ⟨_, rfl, _, _, _, _, true, rfl, .own _, ans_ty hat3, ans_A T an, _, rfl, iteF ?_⟩
        refine ⟨_, rfl, _, _, _, _, false, rfl, .own _, ans_ty hat3, ans_C T an, _, rfl, iteF ?_⟩
        refine ⟨_, rfl, .inl ⟨rfl, _, SqL.of hk3⟩, p3, _, .bl true, rfl, rfl, SqL.of hk3, rfl, rfl, rfl, _, rfl, ite2 (fun h => ?_) (fun _ => ?_)⟩
        · exfalso
          rw [ans_count, d_int] at h
          simp at h
        refine ⟨fun σ' H' => σ' = [some (.ref a), some (S l'), some (S d), some (.ref x), some (.ref p3), x5, x6] ∧ H' = H4, ?_, ?_⟩
        · refine ⟨_, rfl, _, _, _, _, isE an, rfl, .own _, ans_ty hat3, ans_E T an, _, rfl, ?_⟩
          cases an with
          | filled t => exact iteF ⟨_, rfl, _, _, _, _, false, rfl, .own _, ans_ty hat3, ans_L T (.filled t), _, rfl, iteF ⟨rfl, rfl⟩⟩
          | uneven => exact iteF ⟨_, rfl, _, _, _, _, false, rfl, .own _, ans_ty hat3, ans_L T .uneven, _, rfl, iteF ⟨rfl, rfl⟩⟩
          | early m =>
            obtain ⟨dx, h⟩ := hat3
            refine iteT ⟨_, rfl, x, _, dx, _, _, rfl, h, T.o_Early.cl, T.na_Early_many, lk1 _ _, _, _, _, _, false, rfl, .ty "bool", .base (.int _), kit_ty (by decide +kernel), _, rfl, iteF ?_⟩
            exact ⟨_, rfl, x, _, dx, _, _, rfl, h, T.o_Early.cl, T.na_Early_many, lk1 _ _, _, _, _, _, true, rfl, .ty "int", .base (.int _), kit_ty (by decide +kernel), _, rfl, iteF ⟨rfl, rfl⟩⟩
          | late m =>
            refine iteF ⟨_, rfl, _, _, _, _, true, rfl, .own _, ans_ty hat3, ans_L T (.late m), _, rfl, iteT ?_⟩
            obtain ⟨dx, h⟩ := hat3
            refine ⟨_, rfl, x, _, dx, _, _, rfl, h, T.o_Late.cl, T.na_Late_many, lk1 _ _, _, _, _, _, false, rfl, .ty "bool", .base (.int _), kit_ty (by decide +kernel), _, rfl, iteF ?_⟩
            exact ⟨_, rfl, x, _, dx, _, _, rfl, h, T.o_Late.cl, T.na_Late_many, lk1 _ _, _, _, _, _, true, rfl, .ty "int", .base (.int _), kit_ty (by decide +kernel), _, rfl, iteF ⟨rfl, rfl⟩⟩
        · rintro σ' H'' ⟨rfl, rfl⟩
          refine ⟨_, rfl, _, rfl, d, x, an, rfl, hat3, hfit, by omega, fun H5 s5 => ⟨_, rfl, ?_⟩⟩
          rw [hsay]
          refine iteF ?_
          have hat5 := hat3.keep s5
          refine rd_shows hat5 hfit (by omega) (fun Q q => ⟨_, rfl, q⟩) (fun Q q => ⟨_, rfl, q⟩) fun H6 s6 => ?_
          rw [hsay]
          refine ⟨_, _, rfl, rfl, _, rfl, iteNS rfl ?_⟩
          have hat6 := hat5.keep s6
          have h06 := s6 _ _ (s5 _ _ h033)
          refine next_is ?_
          have hoth : ∀ c ∈ [d.reverse, d.drop 1, d ++ [41]], c.length ≤ 500 := by
            intro c hc
            simp only [List.mem_cons, List.not_mem_nil, or_false] at hc
            rcases hc with rfl | rfl | rfl
            · walk_at "len"
            · walk_at "len"
            · walk_at "len"
          refine l_for_lst (cons_val (S d.reverse) (fun Q q => ⟨_, rfl, St_ d, rfl, szS (by omega), by rw [St_rev]; exact q⟩)
            (cons_val (S (d.drop 1)) (fun Q q => ⟨_, rfl, _, rfl, St_ d, rfl, szS (by omega), by
              have e := cut_from d 1
              show Q (.str (cutS (St_ d) (some ((1 : Nat) : Int)) none)) H6
              rw [e]; exact q⟩)
            (cons_val (S (d ++ [41])) (fun Q q => ⟨_, rfl, _, _, rfl, rfl, by rw [lit_cl, len_S, len_S]; exact sz5 (by simp; omega), by rw [lit_cl, add_S]; exact q⟩)
            (nil_val ⟨sz5 (by simp), fun p4 np4 => ⟨p4, rfl, ⟨_, SqL.of upd_same⟩, ?_⟩⟩))))
          have s64 := Same.new np4 (o := HO.lst ([d.reverse, d.drop 1, d ++ [41]].map S))
          refine for_lstM (K := K) (a := p4) (f := S) (xs := [d.reverse, d.drop 1, d ++ [41]]) (fun p σ H7 => ∃ x5 x6, σ = [some (.ref a), some (S l'), some (S d), some (.ref x), some (.ref p3), x5, x6] ∧ H7 p4 = some (.lst ([d.reverse, d.drop 1, d ++ [41]].map S)) ∧ Same H6 H7)
            ⟨_, _, rfl, upd_same, s64⟩ (fun p σ H2 ⟨_, _, _, h, _⟩ => SqL.of h) ?_ ?_
          · rintro p c r σ H7 e ⟨x5, x6, rfl, h4, s7⟩
            have hc := hoth c (by rw [e]; simp)
            have hat7 := hat6.keep s7
            refine sq_asg (rd_shows hat7 hfit (by omega) (fun Q q => ⟨_, rfl, q⟩) (fun Q q => ⟨_, rfl, q⟩) fun H8 s8 => ?_)
            refine ⟨_, rfl, _, _, _, _, true, rfl, .ty "bool", .base (.bl _), kit_ty (by decide +kernel), _, rfl, iteF ?_⟩
            refine ⟨_, rfl, _, rfl, _, rfl, c, x, an, rfl, hat7.keep s8, hfit, by omega, fun H9 s9 => ⟨rfl, _, rfl, iteNS rfl ⟨_, _, rfl, s9 _ _ (s8 _ _ h4), (s7.trans s8).trans s9⟩⟩⟩
          · rintro σ H7 ⟨x5, x6, rfl, h4, s7⟩
            exact ⟨_, _, _, _, _, rfl, s7 _ _ h06⟩
      · rintro σ H2 ⟨x2, x3, x4, x5, x6, rfl, h0⟩
        refine ⟨V.str (Str.ofString ""), rfl, .inl ⟨[], congrArg V.str lit_e, by decide, fun h => absurd (fun c hc => by cases hc) h, fun _ H3 x an hat _ _ hnil _ _ => ?_⟩⟩
        obtain ⟨t, rfl⟩ := hnil rfl
        exact ⟨_, _, _, _, true, rfl, .own _, ans_ty hat, ans_F T (.filled t), q _⟩
end
end HT

set_option Elab.async false
set_option linter.all false
set_option maxRecDepth 100000
set_option maxHeartbeats 4000000
namespace HT
open PySem PySem.Spec PyProof.Rows L2 BR
def spEnd (K : PySem.W.Frag) : Sp := fun vs H Q _ => ∃ (a : Addr) (ns : List Int), vs = [.ref a] ∧ SqL K H a (ns.map V.int) ∧ ns.length ≤ 63 ∧ ∀ H', Q (.bl true) H'
theorem all_mk {l : PySem.W.OpenLaw} {w : World} {K : PySem.W.Frag} {h : Heap} {mg : Str → Option Value} {fa f1 f2 f3 f4 f5 f6 f7 f8 f9 f10 f11 f100 f101 f102 f103 f104 f105 f106 f107 f108 CBracketError CBadRow CAnswer CFilled CUneven CEarly CLate CCheapest : Addr} (X : K.In h) (G : h.Ns mainGlobals mg) (hfa : mg "law" = some (.ref fa))
    {od1 an1 : Option Addr} {sl1 : Array (Option Value)} {oc1 kV1 dc1 pm1 cd1 ct1 : Value}
    {od2 an2 : Option Addr} {sl2 : Array (Option Value)} {oc2 kV2 dc2 pm2 cd2 ct2 : Value}
    {od3 an3 : Option Addr} {sl3 : Array (Option Value)} {oc3 kV3 dc3 pm3 cd3 ct3 : Value}
    {od4 an4 : Option Addr} {sl4 : Array (Option Value)} {oc4 kV4 dc4 pm4 cd4 ct4 : Value}
    {od5 an5 : Option Addr} {sl5 : Array (Option Value)} {oc5 kV5 dc5 pm5 cd5 ct5 : Value}
    {od6 an6 : Option Addr} {sl6 : Array (Option Value)} {oc6 kV6 dc6 pm6 cd6 ct6 : Value}
    {od7 an7 : Option Addr} {sl7 : Array (Option Value)} {oc7 kV7 dc7 pm7 cd7 ct7 : Value}
    {od8 an8 : Option Addr} {sl8 : Array (Option Value)} {oc8 kV8 dc8 pm8 cd8 ct8 : Value}
    {od9 an9 : Option Addr} {sl9 : Array (Option Value)} {oc9 kV9 dc9 pm9 cd9 ct9 : Value}
    {od10 an10 : Option Addr} {sl10 : Array (Option Value)} {oc10 kV10 dc10 pm10 cd10 ct10 : Value}
    {od11 an11 : Option Addr} {sl11 : Array (Option Value)} {oc11 kV11 dc11 pm11 cd11 ct11 : Value}
    {od100 an100 : Option Addr} {sl100 : Array (Option Value)} {oc100 kV100 dc100 pm100 cd100 ct100 : Value}
    {od101 an101 : Option Addr} {sl101 : Array (Option Value)} {oc101 kV101 dc101 pm101 cd101 ct101 : Value}
    {od102 an102 : Option Addr} {sl102 : Array (Option Value)} {oc102 kV102 dc102 pm102 cd102 ct102 : Value}
    {od103 an103 : Option Addr} {sl103 : Array (Option Value)} {oc103 kV103 dc103 pm103 cd103 ct103 : Value}
    {od104 an104 : Option Addr} {sl104 : Array (Option Value)} {oc104 kV104 dc104 pm104 cd104 ct104 : Value}
    {od105 an105 : Option Addr} {sl105 : Array (Option Value)} {oc105 kV105 dc105 pm105 cd105 ct105 : Value}
    {od106 an106 : Option Addr} {sl106 : Array (Option Value)} {oc106 kV106 dc106 pm106 cd106 ct106 : Value}
    {od107 an107 : Option Addr} {sl107 : Array (Option Value)} {oc107 kV107 dc107 pm107 cd107 ct107 : Value}
    {od108 an108 : Option Addr} {sl108 : Array (Option Value)} {oc108 kV108 dc108 pm108 cd108 ct108 : Value}
    (a1 : PySem.W.nsIn K mainGlobals "asked_row" = some (some (.ref f1)))
    (l1 : K.lookup f1 = some ⟨oc1, od1, .func (PySem.W.fnOf "asked_row" "asked_row" (defArgs sAskedRow) (defBody sAskedRow) (defScope sAskedRow) .none kV1 dc1 pm1 an1 cd1 ct1), sl1⟩)
    (c1 : PySem.W.codeIn K cd1 "asked_row" = true)
    (k1 : PySem.W.keepIn K (.ref f1) = true)
    (a2 : PySem.W.nsIn K mainGlobals "depths_of" = some (some (.ref f2)))
    (l2 : K.lookup f2 = some ⟨oc2, od2, .func (PySem.W.fnOf "depths_of" "depths_of" (defArgs sDepthsOf) (defBody sDepthsOf) (defScope sDepthsOf) .none kV2 dc2 pm2 an2 cd2 ct2), sl2⟩)
    (c2 : PySem.W.codeIn K cd2 "depths_of" = true)
    (k2 : PySem.W.keepIn K (.ref f2) = true)
    (a3 : PySem.W.nsIn K mainGlobals "is_closed" = some (some (.ref f3)))
    (l3 : K.lookup f3 = some ⟨oc3, od3, .func (PySem.W.fnOf "is_closed" "is_closed" (defArgs sIsClosed) (defBody sIsClosed) (defScope sIsClosed) .none kV3 dc3 pm3 an3 cd3 ct3), sl3⟩)
    (c3 : PySem.W.codeIn K cd3 "is_closed" = true)
    (k3 : PySem.W.keepIn K (.ref f3) = true)
    (a4 : PySem.W.nsIn K mainGlobals "is_filling" = some (some (.ref f4)))
    (l4 : K.lookup f4 = some ⟨oc4, od4, .func (PySem.W.fnOf "is_filling" "is_filling" (defArgs sIsFilling) (defBody sIsFilling) (defScope sIsFilling) .none kV4 dc4 pm4 an4 cd4 ct4), sl4⟩)
    (c4 : PySem.W.codeIn K cd4 "is_filling" = true)
    (k4 : PySem.W.keepIn K (.ref f4) = true)
    (a5 : PySem.W.nsIn K mainGlobals "earliest" = some (some (.ref f5)))
    (l5 : K.lookup f5 = some ⟨oc5, od5, .func (PySem.W.fnOf "earliest" "earliest" (defArgs sEarliest) (defBody sEarliest) (defScope sEarliest) .none kV5 dc5 pm5 an5 cd5 ct5), sl5⟩)
    (c5 : PySem.W.codeIn K cd5 "earliest" = true)
    (k5 : PySem.W.keepIn K (.ref f5) = true)
    (a6 : PySem.W.nsIn K mainGlobals "filled" = some (some (.ref f6)))
    (l6 : K.lookup f6 = some ⟨oc6, od6, .func (PySem.W.fnOf "filled" "filled" (defArgs sFilled) (defBody sFilled) (defScope sFilled) .none kV6 dc6 pm6 an6 cd6 ct6), sl6⟩)
    (c6 : PySem.W.codeIn K cd6 "filled" = true)
    (k6 : PySem.W.keepIn K (.ref f6) = true)
    (a7 : PySem.W.nsIn K mainGlobals "_law_row" = some (some (.ref f7)))
    (l7 : K.lookup f7 = some ⟨oc7, od7, .func (PySem.W.fnOf "_law_row" "_law_row" (defArgs sLawRow) (defBody sLawRow) (defScope sLawRow) .none kV7 dc7 pm7 an7 cd7 ct7), sl7⟩)
    (c7 : PySem.W.codeIn K cd7 "_law_row" = true)
    (k7 : PySem.W.keepIn K (.ref f7) = true)
    (a8 : PySem.W.nsIn K mainGlobals "_law_closed" = some (some (.ref f8)))
    (l8 : K.lookup f8 = some ⟨oc8, od8, .func (PySem.W.fnOf "_law_closed" "_law_closed" (defArgs sLawClosed) (defBody sLawClosed) (defScope sLawClosed) .none kV8 dc8 pm8 an8 cd8 ct8), sl8⟩)
    (c8 : PySem.W.codeIn K cd8 "_law_closed" = true)
    (k8 : PySem.W.keepIn K (.ref f8) = true)
    (a9 : PySem.W.nsIn K mainGlobals "_law_filling" = some (some (.ref f9)))
    (l9 : K.lookup f9 = some ⟨oc9, od9, .func (PySem.W.fnOf "_law_filling" "_law_filling" (defArgs sLawFilling) (defBody sLawFilling) (defScope sLawFilling) .none kV9 dc9 pm9 an9 cd9 ct9), sl9⟩)
    (c9 : PySem.W.codeIn K cd9 "_law_filling" = true)
    (k9 : PySem.W.keepIn K (.ref f9) = true)
    (a10 : PySem.W.nsIn K mainGlobals "_law_due" = some (some (.ref f10)))
    (l10 : K.lookup f10 = some ⟨oc10, od10, .func (PySem.W.fnOf "_law_due" "_law_due" (defArgs sLawDue) (defBody sLawDue) (defScope sLawDue) .none kV10 dc10 pm10 an10 cd10 ct10), sl10⟩)
    (c10 : PySem.W.codeIn K cd10 "_law_due" = true)
    (k10 : PySem.W.keepIn K (.ref f10) = true)
    (a11 : PySem.W.nsIn K mainGlobals "law" = some (some (.ref f11)))
    (l11 : K.lookup f11 = some ⟨oc11, od11, .func (PySem.W.fnOf "law" "law" (defArgs sLaw) (defBody sLaw) (defScope sLaw) .none kV11 dc11 pm11 an11 cd11 ct11), sl11⟩)
    (c11 : PySem.W.codeIn K cd11 "law" = true)
    (k11 : PySem.W.keepIn K (.ref f11) = true)
    (aCAnswer : PySem.W.nsIn K mainGlobals "Answer" = some (some (.ref CAnswer)))
    (aCFilled : PySem.W.nsIn K mainGlobals "Filled" = some (some (.ref CFilled)))
    (aCUneven : PySem.W.nsIn K mainGlobals "Uneven" = some (some (.ref CUneven)))
    (aCEarly : PySem.W.nsIn K mainGlobals "Early" = some (some (.ref CEarly)))
    (aCLate : PySem.W.nsIn K mainGlobals "Late" = some (some (.ref CLate)))
    (aCCheapest : PySem.W.nsIn K mainGlobals "Cheapest" = some (some (.ref CCheapest)))
    (aCBracketError : PySem.W.nsIn K mainGlobals "BracketError" = some (some (.ref CBracketError)))
    (aCBadRow : PySem.W.nsIn K mainGlobals "BadRow" = some (some (.ref CBadRow)))
    (a100 : PySem.W.findIn K (.ref CFilled) "__init__" = some (some (.ref f100)))
    (i100 : PySem.W.isFn K (.ref f100) = true)
    (l100 : K.lookup f100 = some ⟨oc100, od100, .func (PySem.W.fnOf "__init__" "Filled.__init__" (defArgs sInitFilled) (defBody sInitFilled) (defScope sInitFilled) .none kV100 dc100 pm100 an100 cd100 ct100), sl100⟩)
    (c100 : PySem.W.codeIn K cd100 "Filled.__init__" = true)
    (k100 : PySem.W.keepIn K (.ref f100) = true)
    (a101 : PySem.W.findIn K (.ref CFilled) "shows" = some (some (.ref f101)))
    (i101 : PySem.W.isFn K (.ref f101) = true)
    (l101 : K.lookup f101 = some ⟨oc101, od101, .func (PySem.W.fnOf "shows" "Filled.shows" (defArgs sShowsFilled) (defBody sShowsFilled) (defScope sShowsFilled) .none kV101 dc101 pm101 an101 cd101 ct101), sl101⟩)
    (c101 : PySem.W.codeIn K cd101 "Filled.shows" = true)
    (k101 : PySem.W.keepIn K (.ref f101) = true)
    (a102 : PySem.W.findIn K (.ref CUneven) "shows" = some (some (.ref f102)))
    (i102 : PySem.W.isFn K (.ref f102) = true)
    (l102 : K.lookup f102 = some ⟨oc102, od102, .func (PySem.W.fnOf "shows" "Uneven.shows" (defArgs sShowsUneven) (defBody sShowsUneven) (defScope sShowsUneven) .none kV102 dc102 pm102 an102 cd102 ct102), sl102⟩)
    (c102 : PySem.W.codeIn K cd102 "Uneven.shows" = true)
    (k102 : PySem.W.keepIn K (.ref f102) = true)
    (a103 : PySem.W.findIn K (.ref CEarly) "__init__" = some (some (.ref f103)))
    (i103 : PySem.W.isFn K (.ref f103) = true)
    (l103 : K.lookup f103 = some ⟨oc103, od103, .func (PySem.W.fnOf "__init__" "Early.__init__" (defArgs sInitEarly) (defBody sInitEarly) (defScope sInitEarly) .none kV103 dc103 pm103 an103 cd103 ct103), sl103⟩)
    (c103 : PySem.W.codeIn K cd103 "Early.__init__" = true)
    (k103 : PySem.W.keepIn K (.ref f103) = true)
    (a104 : PySem.W.findIn K (.ref CEarly) "shows" = some (some (.ref f104)))
    (i104 : PySem.W.isFn K (.ref f104) = true)
    (l104 : K.lookup f104 = some ⟨oc104, od104, .func (PySem.W.fnOf "shows" "Early.shows" (defArgs sShowsEarly) (defBody sShowsEarly) (defScope sShowsEarly) .none kV104 dc104 pm104 an104 cd104 ct104), sl104⟩)
    (c104 : PySem.W.codeIn K cd104 "Early.shows" = true)
    (k104 : PySem.W.keepIn K (.ref f104) = true)
    (a105 : PySem.W.findIn K (.ref CLate) "__init__" = some (some (.ref f105)))
    (i105 : PySem.W.isFn K (.ref f105) = true)
    (l105 : K.lookup f105 = some ⟨oc105, od105, .func (PySem.W.fnOf "__init__" "Late.__init__" (defArgs sInitLate) (defBody sInitLate) (defScope sInitLate) .none kV105 dc105 pm105 an105 cd105 ct105), sl105⟩)
    (c105 : PySem.W.codeIn K cd105 "Late.__init__" = true)
    (k105 : PySem.W.keepIn K (.ref f105) = true)
    (a106 : PySem.W.findIn K (.ref CLate) "shows" = some (some (.ref f106)))
    (i106 : PySem.W.isFn K (.ref f106) = true)
    (l106 : K.lookup f106 = some ⟨oc106, od106, .func (PySem.W.fnOf "shows" "Late.shows" (defArgs sShowsLate) (defBody sShowsLate) (defScope sShowsLate) .none kV106 dc106 pm106 an106 cd106 ct106), sl106⟩)
    (c106 : PySem.W.codeIn K cd106 "Late.shows" = true)
    (k106 : PySem.W.keepIn K (.ref f106) = true)
    (a107 : PySem.W.findIn K (.ref CCheapest) "__init__" = some (some (.ref f107)))
    (i107 : PySem.W.isFn K (.ref f107) = true)
    (l107 : K.lookup f107 = some ⟨oc107, od107, .func (PySem.W.fnOf "__init__" "Cheapest.__init__" (defArgs sInitCheapest) (defBody sInitCheapest) (defScope sInitCheapest) .none kV107 dc107 pm107 an107 cd107 ct107), sl107⟩)
    (c107 : PySem.W.codeIn K cd107 "Cheapest.__init__" = true)
    (k107 : PySem.W.keepIn K (.ref f107) = true)
    (a108 : PySem.W.findIn K (.ref CCheapest) "shows" = some (some (.ref f108)))
    (i108 : PySem.W.isFn K (.ref f108) = true)
    (l108 : K.lookup f108 = some ⟨oc108, od108, .func (PySem.W.fnOf "shows" "Cheapest.shows" (defArgs sShowsCheapest) (defBody sShowsCheapest) (defScope sShowsCheapest) .none kV108 dc108 pm108 an108 cd108 ct108), sl108⟩)
    (c108 : PySem.W.codeIn K cd108 "Cheapest.shows" = true)
    (k108 : PySem.W.keepIn K (.ref f108) = true)
    (z_ValueError : PySem.W.nsIn K mainGlobals "ValueError" = some none)
    (z_all : PySem.W.nsIn K mainGlobals "all" = some none)
    (z_bool : PySem.W.nsIn K mainGlobals "bool" = some none)
    (z_enumerate : PySem.W.nsIn K mainGlobals "enumerate" = some none)
    (z_int : PySem.W.nsIn K mainGlobals "int" = some none)
    (z_isinstance : PySem.W.nsIn K mainGlobals "isinstance" = some none)
    (z_len : PySem.W.nsIn K mainGlobals "len" = some none)
    (z_list : PySem.W.nsIn K mainGlobals "list" = some none)
    (z_min : PySem.W.nsIn K mainGlobals "min" = some none)
    (z_range : PySem.W.nsIn K mainGlobals "range" = some none)
    (z_str : PySem.W.nsIn K mainGlobals "str" = some none)
    (z_sum : PySem.W.nsIn K mainGlobals "sum" = some none)
    (z_zip : PySem.W.nsIn K mainGlobals "zip" = some none)
    (x_BracketError : PySem.W.excIn K CBracketError [.type "ValueError", .type "Exception", .type "BaseException", .type "object"] "ValueError.__new__" = true)
    (kx_BracketError : PySem.W.keepIn K (.ref CBracketError) = true)
    (bx_BracketError : PySem.W.subIn K (.ref CBracketError) (.type "BaseException") = some true)
    (tx_BracketError : PySem.W.typeIn K (.ref CBracketError) = some (.type "type"))
    (x_BadRow : PySem.W.excIn K CBadRow [.type "ValueError", .type "Exception", .type "BaseException", .type "object"] "ValueError.__new__" = true)
    (kx_BadRow : PySem.W.keepIn K (.ref CBadRow) = true)
    (bx_BadRow : PySem.W.subIn K (.ref CBadRow) (.type "BaseException") = some true)
    (tx_BadRow : PySem.W.typeIn K (.ref CBadRow) = some (.type "type"))
    (hnO : PySem.W.specialIn K (.builtin "object.__class__") "__get__" = some (some (.builtin "getset_descriptor.__get__")))
    (htO : PySem.W.takesIn K (.builtin "object.__class__") = some true)
    (pg_Answer : PySem.W.plainGet K CAnswer Str.empty = true)
    (hd_Answer : PySem.W.hasDictIn K CAnswer = true)
    (po_Answer : PySem.W.plainOver K CAnswer = true)
    (sa_Answer : PySem.W.findIn K (.ref CAnswer) "__setattr__" = some (some (.builtin "object.__setattr__")))
    (ha_Answer : PySem.W.findIn K (.ref CAnswer) "__class__" = some (some (.builtin "object.__class__")))
    (hm_Answer : PySem.W.mroIn K CAnswer (.type "object") = some true)
    (ma_Answer : PySem.W.makesIn K CAnswer = true)
    (kc_Answer : PySem.W.keepIn K (.ref CAnswer) = true)
    (na_text_Answer : PySem.W.findIn K (.ref CAnswer) "text" = some none)
    (na_many_Answer : PySem.W.findIn K (.ref CAnswer) "many" = some none)
    (na_levels_Answer : PySem.W.findIn K (.ref CAnswer) "levels" = some none)
    (oi_Answer : PySem.W.findIn K (.ref CAnswer) "__init__" = some (some (.builtin "object.__init__")))
    (ke_Answer_Answer : PySem.W.kitOne K (.ref CAnswer) (.ref CAnswer) = some true)
    (ke_Filled_Answer : PySem.W.kitOne K (.ref CAnswer) (.ref CFilled) = some false)
    (ke_Uneven_Answer : PySem.W.kitOne K (.ref CAnswer) (.ref CUneven) = some false)
    (ke_Early_Answer : PySem.W.kitOne K (.ref CAnswer) (.ref CEarly) = some false)
    (ke_Late_Answer : PySem.W.kitOne K (.ref CAnswer) (.ref CLate) = some false)
    (ke_Cheapest_Answer : PySem.W.kitOne K (.ref CAnswer) (.ref CCheapest) = some false)
    (pg_Filled : PySem.W.plainGet K CFilled Str.empty = true)
    (hd_Filled : PySem.W.hasDictIn K CFilled = true)
    (po_Filled : PySem.W.plainOver K CFilled = true)
    (sa_Filled : PySem.W.findIn K (.ref CFilled) "__setattr__" = some (some (.builtin "object.__setattr__")))
    (ha_Filled : PySem.W.findIn K (.ref CFilled) "__class__" = some (some (.builtin "object.__class__")))
    (hm_Filled : PySem.W.mroIn K CFilled (.type "object") = some true)
    (ma_Filled : PySem.W.makesIn K CFilled = true)
    (kc_Filled : PySem.W.keepIn K (.ref CFilled) = true)
    (na_text_Filled : PySem.W.findIn K (.ref CFilled) "text" = some none)
    (na_many_Filled : PySem.W.findIn K (.ref CFilled) "many" = some none)
    (na_levels_Filled : PySem.W.findIn K (.ref CFilled) "levels" = some none)
    (ke_Answer_Filled : PySem.W.kitOne K (.ref CFilled) (.ref CAnswer) = some true)
    (ke_Filled_Filled : PySem.W.kitOne K (.ref CFilled) (.ref CFilled) = some true)
    (ke_Uneven_Filled : PySem.W.kitOne K (.ref CFilled) (.ref CUneven) = some false)
    (ke_Early_Filled : PySem.W.kitOne K (.ref CFilled) (.ref CEarly) = some false)
    (ke_Late_Filled : PySem.W.kitOne K (.ref CFilled) (.ref CLate) = some false)
    (ke_Cheapest_Filled : PySem.W.kitOne K (.ref CFilled) (.ref CCheapest) = some false)
    (pg_Uneven : PySem.W.plainGet K CUneven Str.empty = true)
    (hd_Uneven : PySem.W.hasDictIn K CUneven = true)
    (po_Uneven : PySem.W.plainOver K CUneven = true)
    (sa_Uneven : PySem.W.findIn K (.ref CUneven) "__setattr__" = some (some (.builtin "object.__setattr__")))
    (ha_Uneven : PySem.W.findIn K (.ref CUneven) "__class__" = some (some (.builtin "object.__class__")))
    (hm_Uneven : PySem.W.mroIn K CUneven (.type "object") = some true)
    (ma_Uneven : PySem.W.makesIn K CUneven = true)
    (kc_Uneven : PySem.W.keepIn K (.ref CUneven) = true)
    (na_text_Uneven : PySem.W.findIn K (.ref CUneven) "text" = some none)
    (na_many_Uneven : PySem.W.findIn K (.ref CUneven) "many" = some none)
    (na_levels_Uneven : PySem.W.findIn K (.ref CUneven) "levels" = some none)
    (oi_Uneven : PySem.W.findIn K (.ref CUneven) "__init__" = some (some (.builtin "object.__init__")))
    (ke_Answer_Uneven : PySem.W.kitOne K (.ref CUneven) (.ref CAnswer) = some true)
    (ke_Filled_Uneven : PySem.W.kitOne K (.ref CUneven) (.ref CFilled) = some false)
    (ke_Uneven_Uneven : PySem.W.kitOne K (.ref CUneven) (.ref CUneven) = some true)
    (ke_Early_Uneven : PySem.W.kitOne K (.ref CUneven) (.ref CEarly) = some false)
    (ke_Late_Uneven : PySem.W.kitOne K (.ref CUneven) (.ref CLate) = some false)
    (ke_Cheapest_Uneven : PySem.W.kitOne K (.ref CUneven) (.ref CCheapest) = some false)
    (pg_Early : PySem.W.plainGet K CEarly Str.empty = true)
    (hd_Early : PySem.W.hasDictIn K CEarly = true)
    (po_Early : PySem.W.plainOver K CEarly = true)
    (sa_Early : PySem.W.findIn K (.ref CEarly) "__setattr__" = some (some (.builtin "object.__setattr__")))
    (ha_Early : PySem.W.findIn K (.ref CEarly) "__class__" = some (some (.builtin "object.__class__")))
    (hm_Early : PySem.W.mroIn K CEarly (.type "object") = some true)
    (ma_Early : PySem.W.makesIn K CEarly = true)
    (kc_Early : PySem.W.keepIn K (.ref CEarly) = true)
    (na_text_Early : PySem.W.findIn K (.ref CEarly) "text" = some none)
    (na_many_Early : PySem.W.findIn K (.ref CEarly) "many" = some none)
    (na_levels_Early : PySem.W.findIn K (.ref CEarly) "levels" = some none)
    (ke_Answer_Early : PySem.W.kitOne K (.ref CEarly) (.ref CAnswer) = some true)
    (ke_Filled_Early : PySem.W.kitOne K (.ref CEarly) (.ref CFilled) = some false)
    (ke_Uneven_Early : PySem.W.kitOne K (.ref CEarly) (.ref CUneven) = some false)
    (ke_Early_Early : PySem.W.kitOne K (.ref CEarly) (.ref CEarly) = some true)
    (ke_Late_Early : PySem.W.kitOne K (.ref CEarly) (.ref CLate) = some false)
    (ke_Cheapest_Early : PySem.W.kitOne K (.ref CEarly) (.ref CCheapest) = some false)
    (pg_Late : PySem.W.plainGet K CLate Str.empty = true)
    (hd_Late : PySem.W.hasDictIn K CLate = true)
    (po_Late : PySem.W.plainOver K CLate = true)
    (sa_Late : PySem.W.findIn K (.ref CLate) "__setattr__" = some (some (.builtin "object.__setattr__")))
    (ha_Late : PySem.W.findIn K (.ref CLate) "__class__" = some (some (.builtin "object.__class__")))
    (hm_Late : PySem.W.mroIn K CLate (.type "object") = some true)
    (ma_Late : PySem.W.makesIn K CLate = true)
    (kc_Late : PySem.W.keepIn K (.ref CLate) = true)
    (na_text_Late : PySem.W.findIn K (.ref CLate) "text" = some none)
    (na_many_Late : PySem.W.findIn K (.ref CLate) "many" = some none)
    (na_levels_Late : PySem.W.findIn K (.ref CLate) "levels" = some none)
    (ke_Answer_Late : PySem.W.kitOne K (.ref CLate) (.ref CAnswer) = some true)
    (ke_Filled_Late : PySem.W.kitOne K (.ref CLate) (.ref CFilled) = some false)
    (ke_Uneven_Late : PySem.W.kitOne K (.ref CLate) (.ref CUneven) = some false)
    (ke_Early_Late : PySem.W.kitOne K (.ref CLate) (.ref CEarly) = some false)
    (ke_Late_Late : PySem.W.kitOne K (.ref CLate) (.ref CLate) = some true)
    (ke_Cheapest_Late : PySem.W.kitOne K (.ref CLate) (.ref CCheapest) = some false)
    (pg_Cheapest : PySem.W.plainGet K CCheapest Str.empty = true)
    (hd_Cheapest : PySem.W.hasDictIn K CCheapest = true)
    (po_Cheapest : PySem.W.plainOver K CCheapest = true)
    (sa_Cheapest : PySem.W.findIn K (.ref CCheapest) "__setattr__" = some (some (.builtin "object.__setattr__")))
    (ha_Cheapest : PySem.W.findIn K (.ref CCheapest) "__class__" = some (some (.builtin "object.__class__")))
    (hm_Cheapest : PySem.W.mroIn K CCheapest (.type "object") = some true)
    (ma_Cheapest : PySem.W.makesIn K CCheapest = true)
    (kc_Cheapest : PySem.W.keepIn K (.ref CCheapest) = true)
    (na_text_Cheapest : PySem.W.findIn K (.ref CCheapest) "text" = some none)
    (na_many_Cheapest : PySem.W.findIn K (.ref CCheapest) "many" = some none)
    (na_levels_Cheapest : PySem.W.findIn K (.ref CCheapest) "levels" = some none)
    (ke_Answer_Cheapest : PySem.W.kitOne K (.ref CCheapest) (.ref CAnswer) = some true)
    (ke_Filled_Cheapest : PySem.W.kitOne K (.ref CCheapest) (.ref CFilled) = some false)
    (ke_Uneven_Cheapest : PySem.W.kitOne K (.ref CCheapest) (.ref CUneven) = some false)
    (ke_Early_Cheapest : PySem.W.kitOne K (.ref CCheapest) (.ref CEarly) = some false)
    (ke_Late_Cheapest : PySem.W.kitOne K (.ref CCheapest) (.ref CLate) = some false)
    (ke_Cheapest_Cheapest : PySem.W.kitOne K (.ref CCheapest) (.ref CCheapest) = some true) :
    ∃ fd : FuncData, (∀ (s : Shared) (v : Value), BindsTo s fd ⟨[v], []⟩ [("_law_script", v)]) ∧ ∀ base : Heap, K.In base → base.Ns mainGlobals mg → FnOk l.prog w K mg base CX0 5 fa fd ["_law_script"] (spEnd K) := by
  have e := hfa.symm.trans (PySem.W.mg_of X G a11)
  cases e
  have F1 := fun_mk (st := sAskedRow) l1 c1 k1
  have F2 := fun_mk (st := sDepthsOf) l2 c2 k2
  have F3 := fun_mk (st := sIsClosed) l3 c3 k3
  have F4 := fun_mk (st := sIsFilling) l4 c4 k4
  have F5 := fun_mk (st := sEarliest) l5 c5 k5
  have F6 := fun_mk (st := sFilled) l6 c6 k6
  have F7 := fun_mk (st := sLawRow) l7 c7 k7
  have F8 := fun_mk (st := sLawClosed) l8 c8 k8
  have F9 := fun_mk (st := sLawFilling) l9 c9 k9
  have F10 := fun_mk (st := sLawDue) l10 c10 k10
  have F11 := fun_mk (st := sLaw) l11 c11 k11
  have F100 := fun_mk (st := sInitFilled) l100 c100 k100
  have F101 := fun_mk (st := sShowsFilled) l101 c101 k101
  have F102 := fun_mk (st := sShowsUneven) l102 c102 k102
  have F103 := fun_mk (st := sInitEarly) l103 c103 k103
  have F104 := fun_mk (st := sShowsEarly) l104 c104 k104
  have F105 := fun_mk (st := sInitLate) l105 c105 k105
  have F106 := fun_mk (st := sShowsLate) l106 c106 k106
  have F107 := fun_mk (st := sInitCheapest) l107 c107 k107
  have F108 := fun_mk (st := sShowsCheapest) l108 c108 k108
  have T : Txt K mg := {
    n_ValueError := PySem.W.mg_none_of X G z_ValueError,
    n_all := PySem.W.mg_none_of X G z_all,
    n_bool := PySem.W.mg_none_of X G z_bool,
    n_enumerate := PySem.W.mg_none_of X G z_enumerate,
    n_int := PySem.W.mg_none_of X G z_int,
    n_isinstance := PySem.W.mg_none_of X G z_isinstance,
    n_len := PySem.W.mg_none_of X G z_len,
    n_list := PySem.W.mg_none_of X G z_list,
    n_min := PySem.W.mg_none_of X G z_min,
    n_range := PySem.W.mg_none_of X G z_range,
    n_str := PySem.W.mg_none_of X G z_str,
    n_sum := PySem.W.mg_none_of X G z_sum,
    n_zip := PySem.W.mg_none_of X G z_zip,
    f_asked_row := ⟨f1, _, F1, PySem.W.mg_of X G a1, F1.binds (ps := ["row"]) fun _ _ _ _ _ _ us hl => match us, hl with | [_], _ => rfl⟩,
    f_depths_of := ⟨f2, _, F2, PySem.W.mg_of X G a2, F2.binds (ps := ["text"]) fun _ _ _ _ _ _ us hl => match us, hl with | [_], _ => rfl⟩,
    f_is_closed := ⟨f3, _, F3, PySem.W.mg_of X G a3, F3.binds (ps := ["text"]) fun _ _ _ _ _ _ us hl => match us, hl with | [_], _ => rfl⟩,
    f_is_filling := ⟨f4, _, F4, PySem.W.mg_of X G a4, F4.binds (ps := ["row", "text"]) fun _ _ _ _ _ _ us hl => match us, hl with | [_, _], _ => rfl⟩,
    f_earliest := ⟨f5, _, F5, PySem.W.mg_of X G a5, F5.binds (ps := ["row"]) fun _ _ _ _ _ _ us hl => match us, hl with | [_], _ => rfl⟩,
    f_filled := ⟨f6, _, F6, PySem.W.mg_of X G a6, F6.binds (ps := ["row"]) fun _ _ _ _ _ _ us hl => match us, hl with | [_], _ => rfl⟩,
    f__law_row := ⟨f7, _, F7, PySem.W.mg_of X G a7, F7.binds (ps := ["_law_script"]) fun _ _ _ _ _ _ us hl => match us, hl with | [_], _ => rfl⟩,
    f__law_closed := ⟨f8, _, F8, PySem.W.mg_of X G a8, F8.binds (ps := ["_law_text"]) fun _ _ _ _ _ _ us hl => match us, hl with | [_], _ => rfl⟩,
    f__law_filling := ⟨f9, _, F9, PySem.W.mg_of X G a9, F9.binds (ps := ["_law_row_here", "_law_text"]) fun _ _ _ _ _ _ us hl => match us, hl with | [_, _], _ => rfl⟩,
    f__law_due := ⟨f10, _, F10, PySem.W.mg_of X G a10, F10.binds (ps := ["_law_row_here", "_law_found"]) fun _ _ _ _ _ _ us hl => match us, hl with | [_, _], _ => rfl⟩,
    c_BracketError := CBracketError,
    g_BracketError := PySem.W.mg_of X G aCBracketError,
    k_BracketError := kx_BracketError,
    b_BracketError := bx_BracketError,
    t_BracketError := tx_BracketError,
    x_BracketError := x_BracketError,
    c_BadRow := CBadRow,
    g_BadRow := PySem.W.mg_of X G aCBadRow,
    k_BadRow := kx_BadRow,
    b_BadRow := bx_BadRow,
    t_BadRow := tx_BadRow,
    x_BadRow := x_BadRow,
    c_Answer := CAnswer,
    g_Answer := PySem.W.mg_of X G aCAnswer,
    o_Answer := ⟨⟨pg_Answer, hd_Answer, po_Answer, sa_Answer⟩, ha_Answer, hnO, htO, hm_Answer⟩,
    na_Answer_text := na_text_Answer,
    na_Answer_many := na_many_Answer,
    na_Answer_levels := na_levels_Answer,
    pl_Answer := ⟨ma_Answer, oi_Answer, kc_Answer⟩,
    ke_Answer_Answer := ke_Answer_Answer,
    ke_Answer_Filled := ke_Filled_Answer,
    ke_Answer_Uneven := ke_Uneven_Answer,
    ke_Answer_Early := ke_Early_Answer,
    ke_Answer_Late := ke_Late_Answer,
    ke_Answer_Cheapest := ke_Cheapest_Answer,
    c_Filled := CFilled,
    g_Filled := PySem.W.mg_of X G aCFilled,
    o_Filled := ⟨⟨pg_Filled, hd_Filled, po_Filled, sa_Filled⟩, ha_Filled, hnO, htO, hm_Filled⟩,
    na_Filled_text := na_text_Filled,
    na_Filled_many := na_many_Filled,
    na_Filled_levels := na_levels_Filled,
    i_Filled := ⟨f100, _, F100, F100.binds (ps := ["self", "text"]) fun _ _ _ _ _ _ us hl => match us, hl with | [_, _], _ => rfl⟩,
    mk_Filled := ⟨ma_Filled, a100, i100, kc_Filled⟩,
    m_Filled := ⟨f101, _, F101, F101.binds (ps := ["self", "row"]) fun _ _ _ _ _ _ us hl => match us, hl with | [_, _], _ => rfl⟩,
    me_Filled := ⟨a101, i101, k101⟩,
    ke_Filled_Answer := ke_Answer_Filled,
    ke_Filled_Filled := ke_Filled_Filled,
    ke_Filled_Uneven := ke_Uneven_Filled,
    ke_Filled_Early := ke_Early_Filled,
    ke_Filled_Late := ke_Late_Filled,
    ke_Filled_Cheapest := ke_Cheapest_Filled,
    c_Uneven := CUneven,
    g_Uneven := PySem.W.mg_of X G aCUneven,
    o_Uneven := ⟨⟨pg_Uneven, hd_Uneven, po_Uneven, sa_Uneven⟩, ha_Uneven, hnO, htO, hm_Uneven⟩,
    na_Uneven_text := na_text_Uneven,
    na_Uneven_many := na_many_Uneven,
    na_Uneven_levels := na_levels_Uneven,
    m_Uneven := ⟨f102, _, F102, F102.binds (ps := ["self", "row"]) fun _ _ _ _ _ _ us hl => match us, hl with | [_, _], _ => rfl⟩,
    me_Uneven := ⟨a102, i102, k102⟩,
    pl_Uneven := ⟨ma_Uneven, oi_Uneven, kc_Uneven⟩,
    ke_Uneven_Answer := ke_Answer_Uneven,
    ke_Uneven_Filled := ke_Filled_Uneven,
    ke_Uneven_Uneven := ke_Uneven_Uneven,
    ke_Uneven_Early := ke_Early_Uneven,
    ke_Uneven_Late := ke_Late_Uneven,
    ke_Uneven_Cheapest := ke_Cheapest_Uneven,
    c_Early := CEarly,
    g_Early := PySem.W.mg_of X G aCEarly,
    o_Early := ⟨⟨pg_Early, hd_Early, po_Early, sa_Early⟩, ha_Early, hnO, htO, hm_Early⟩,
    na_Early_text := na_text_Early,
    na_Early_many := na_many_Early,
    na_Early_levels := na_levels_Early,
    i_Early := ⟨f103, _, F103, F103.binds (ps := ["self", "many"]) fun _ _ _ _ _ _ us hl => match us, hl with | [_, _], _ => rfl⟩,
    mk_Early := ⟨ma_Early, a103, i103, kc_Early⟩,
    m_Early := ⟨f104, _, F104, F104.binds (ps := ["self", "row"]) fun _ _ _ _ _ _ us hl => match us, hl with | [_, _], _ => rfl⟩,
    me_Early := ⟨a104, i104, k104⟩,
    ke_Early_Answer := ke_Answer_Early,
    ke_Early_Filled := ke_Filled_Early,
    ke_Early_Uneven := ke_Uneven_Early,
    ke_Early_Early := ke_Early_Early,
    ke_Early_Late := ke_Late_Early,
    ke_Early_Cheapest := ke_Cheapest_Early,
    c_Late := CLate,
    g_Late := PySem.W.mg_of X G aCLate,
    o_Late := ⟨⟨pg_Late, hd_Late, po_Late, sa_Late⟩, ha_Late, hnO, htO, hm_Late⟩,
    na_Late_text := na_text_Late,
    na_Late_many := na_many_Late,
    na_Late_levels := na_levels_Late,
    i_Late := ⟨f105, _, F105, F105.binds (ps := ["self", "many"]) fun _ _ _ _ _ _ us hl => match us, hl with | [_, _], _ => rfl⟩,
    mk_Late := ⟨ma_Late, a105, i105, kc_Late⟩,
    m_Late := ⟨f106, _, F106, F106.binds (ps := ["self", "row"]) fun _ _ _ _ _ _ us hl => match us, hl with | [_, _], _ => rfl⟩,
    me_Late := ⟨a106, i106, k106⟩,
    ke_Late_Answer := ke_Answer_Late,
    ke_Late_Filled := ke_Filled_Late,
    ke_Late_Uneven := ke_Uneven_Late,
    ke_Late_Early := ke_Early_Late,
    ke_Late_Late := ke_Late_Late,
    ke_Late_Cheapest := ke_Cheapest_Late,
    c_Cheapest := CCheapest,
    g_Cheapest := PySem.W.mg_of X G aCCheapest,
    o_Cheapest := ⟨⟨pg_Cheapest, hd_Cheapest, po_Cheapest, sa_Cheapest⟩, ha_Cheapest, hnO, htO, hm_Cheapest⟩,
    na_Cheapest_text := na_text_Cheapest,
    na_Cheapest_many := na_many_Cheapest,
    na_Cheapest_levels := na_levels_Cheapest,
    i_Cheapest := ⟨f107, _, F107, F107.binds (ps := ["self", "text", "levels"]) fun _ _ _ _ _ _ us hl => match us, hl with | [_, _, _], _ => rfl⟩,
    mk_Cheapest := ⟨ma_Cheapest, a107, i107, kc_Cheapest⟩,
    m_Cheapest := ⟨f108, _, F108, F108.binds (ps := ["self", "row", "prices"]) fun _ _ _ _ _ _ us hl => match us, hl with | [_, _, _], _ => rfl⟩,
    me_Cheapest := ⟨a108, i108, k108⟩,
    ke_Cheapest_Answer := ke_Answer_Cheapest,
    ke_Cheapest_Filled := ke_Filled_Cheapest,
    ke_Cheapest_Uneven := ke_Uneven_Cheapest,
    ke_Cheapest_Early := ke_Early_Cheapest,
    ke_Cheapest_Late := ke_Late_Cheapest,
    ke_Cheapest_Cheapest := ke_Cheapest_Cheapest }
  exact ⟨PySem.W.fnOf "law" "law" (defArgs sLaw) (defBody sLaw) (defScope sLaw) .none kV11 dc11 pm11 an11 cd11 ct11, fun s v => .of_eq rfl, fun base _ _ => okLaw T F11⟩
end HT
open PySem PySem.W PyProof.Rows
set_option maxHeartbeats 0 in
theorem PySem.Challenge.cw_halftold_k01_whole_filled_holds : PySem.Challenge.rw_halftold_k01_whole_filled.Holds := by
  w_on; o_law; k_head; (case hw => w_witness2)
  k_fill
  refine L2.walk_of (l := PySem.Challenge.rw_halftold_k01_whole_filled) (n := 63) (k := 5) (x := "_law_script") (CX := fun _ => L2.CX0) (sp := fun w => HT.spEnd _) rfl (by decide) rfl ⟨rfl, by decide, by decide⟩ (fun w h Y => PySem.W.kIn_of Y) ?F (fun _ _ a ns hl _ hS => ⟨a, ns, rfl, hS, hl, fun _ => rfl⟩) (fun _ _ _ _ _ h => h)
  case F =>
    intro w mg fa h KX G hmg
    refine' HT.all_mk KX G hmg ?a1 ?l1 ?c1 ?k1 ?a2 ?l2 ?c2 ?k2 ?a3 ?l3 ?c3 ?k3 ?a4 ?l4 ?c4 ?k4 ?a5 ?l5 ?c5 ?k5 ?a6 ?l6 ?c6 ?k6 ?a7 ?l7 ?c7 ?k7 ?a8 ?l8 ?c8 ?k8 ?a9 ?l9 ?c9 ?k9 ?a10 ?l10 ?c10 ?k10 ?a11 ?l11 ?c11 ?k11 ?aCAnswer ?aCFilled ?aCUneven ?aCEarly ?aCLate ?aCCheapest ?aCBracketError ?aCBadRow ?a100 ?i100 ?l100 ?c100 ?k100 ?a101 ?i101 ?l101 ?c101 ?k101 ?a102 ?i102 ?l102 ?c102 ?k102 ?a103 ?i103 ?l103 ?c103 ?k103 ?a104 ?i104 ?l104 ?c104 ?k104 ?a105 ?i105 ?l105 ?c105 ?k105 ?a106 ?i106 ?l106 ?c106 ?k106 ?a107 ?i107 ?l107 ?c107 ?k107 ?a108 ?i108 ?l108 ?c108 ?k108 ?z_ValueError ?z_all ?z_bool ?z_enumerate ?z_int ?z_isinstance ?z_len ?z_list ?z_min ?z_range ?z_str ?z_sum ?z_zip ?x_BracketError ?kx_BracketError ?bx_BracketError ?tx_BracketError ?x_BadRow ?kx_BadRow ?bx_BadRow ?tx_BadRow ?hnO ?htO ?pg_Answer ?hd_Answer ?po_Answer ?sa_Answer ?ha_Answer ?hm_Answer ?ma_Answer ?kc_Answer ?na_text_Answer ?na_many_Answer ?na_levels_Answer ?oi_Answer ?ke_Answer_Answer ?ke_Filled_Answer ?ke_Uneven_Answer ?ke_Early_Answer ?ke_Late_Answer ?ke_Cheapest_Answer ?pg_Filled ?hd_Filled ?po_Filled ?sa_Filled ?ha_Filled ?hm_Filled ?ma_Filled ?kc_Filled ?na_text_Filled ?na_many_Filled ?na_levels_Filled ?ke_Answer_Filled ?ke_Filled_Filled ?ke_Uneven_Filled ?ke_Early_Filled ?ke_Late_Filled ?ke_Cheapest_Filled ?pg_Uneven ?hd_Uneven ?po_Uneven ?sa_Uneven ?ha_Uneven ?hm_Uneven ?ma_Uneven ?kc_Uneven ?na_text_Uneven ?na_many_Uneven ?na_levels_Uneven ?oi_Uneven ?ke_Answer_Uneven ?ke_Filled_Uneven ?ke_Uneven_Uneven ?ke_Early_Uneven ?ke_Late_Uneven ?ke_Cheapest_Uneven ?pg_Early ?hd_Early ?po_Early ?sa_Early ?ha_Early ?hm_Early ?ma_Early ?kc_Early ?na_text_Early ?na_many_Early ?na_levels_Early ?ke_Answer_Early ?ke_Filled_Early ?ke_Uneven_Early ?ke_Early_Early ?ke_Late_Early ?ke_Cheapest_Early ?pg_Late ?hd_Late ?po_Late ?sa_Late ?ha_Late ?hm_Late ?ma_Late ?kc_Late ?na_text_Late ?na_many_Late ?na_levels_Late ?ke_Answer_Late ?ke_Filled_Late ?ke_Uneven_Late ?ke_Early_Late ?ke_Late_Late ?ke_Cheapest_Late ?pg_Cheapest ?hd_Cheapest ?po_Cheapest ?sa_Cheapest ?ha_Cheapest ?hm_Cheapest ?ma_Cheapest ?kc_Cheapest ?na_text_Cheapest ?na_many_Cheapest ?na_levels_Cheapest ?ke_Answer_Cheapest ?ke_Filled_Cheapest ?ke_Uneven_Cheapest ?ke_Early_Cheapest ?ke_Late_Cheapest ?ke_Cheapest_Cheapest
    (case a1 => k_is)
    (case l1 => k_is)
    (case c1 => k_is)
    (case k1 => k_is)
    (case a2 => k_is)
    (case l2 => k_is)
    (case c2 => k_is)
    (case k2 => k_is)
    (case a3 => k_is)
    (case l3 => k_is)
    (case c3 => k_is)
    (case k3 => k_is)
    (case a4 => k_is)
    (case l4 => k_is)
    (case c4 => k_is)
    (case k4 => k_is)
    (case a5 => k_is)
    (case l5 => k_is)
    (case c5 => k_is)
    (case k5 => k_is)
    (case a6 => k_is)
    (case l6 => k_is)
    (case c6 => k_is)
    (case k6 => k_is)
    (case a7 => k_is)
    (case l7 => k_is)
    (case c7 => k_is)
    (case k7 => k_is)
    (case a8 => k_is)
    (case l8 => k_is)
    (case c8 => k_is)
    (case k8 => k_is)
    (case a9 => k_is)
    (case l9 => k_is)
    (case c9 => k_is)
    (case k9 => k_is)
    (case a10 => k_is)
    (case l10 => k_is)
    (case c10 => k_is)
    (case k10 => k_is)
    (case a11 => k_is)
    (case l11 => k_is)
    (case c11 => k_is)
    (case k11 => k_is)
    (case aCAnswer => k_is)
    (case aCFilled => k_is)
    (case aCUneven => k_is)
    (case aCEarly => k_is)
    (case aCLate => k_is)
    (case aCCheapest => k_is)
    (case aCBracketError => k_is)
    (case aCBadRow => k_is)
    (case a100 => k_is)
    (case i100 => k_is)
    (case l100 => k_is)
    (case c100 => k_is)
    (case k100 => k_is)
    (case a101 => k_is)
    (case i101 => k_is)
    (case l101 => k_is)
    (case c101 => k_is)
    (case k101 => k_is)
    (case a102 => k_is)
    (case i102 => k_is)
    (case l102 => k_is)
    (case c102 => k_is)
    (case k102 => k_is)
    (case a103 => k_is)
    (case i103 => k_is)
    (case l103 => k_is)
    (case c103 => k_is)
    (case k103 => k_is)
    (case a104 => k_is)
    (case i104 => k_is)
    (case l104 => k_is)
    (case c104 => k_is)
    (case k104 => k_is)
    (case a105 => k_is)
    (case i105 => k_is)
    (case l105 => k_is)
    (case c105 => k_is)
    (case k105 => k_is)
    (case a106 => k_is)
    (case i106 => k_is)
    (case l106 => k_is)
    (case c106 => k_is)
    (case k106 => k_is)
    (case a107 => k_is)
    (case i107 => k_is)
    (case l107 => k_is)
    (case c107 => k_is)
    (case k107 => k_is)
    (case a108 => k_is)
    (case i108 => k_is)
    (case l108 => k_is)
    (case c108 => k_is)
    (case k108 => k_is)
    (case z_ValueError => k_is)
    (case z_all => k_is)
    (case z_bool => k_is)
    (case z_enumerate => k_is)
    (case z_int => k_is)
    (case z_isinstance => k_is)
    (case z_len => k_is)
    (case z_list => k_is)
    (case z_min => k_is)
    (case z_range => k_is)
    (case z_str => k_is)
    (case z_sum => k_is)
    (case z_zip => k_is)
    (case x_BracketError => k_exc)
    (case kx_BracketError => k_is)
    (case bx_BracketError => k_is)
    (case tx_BracketError => k_is)
    (case x_BadRow => k_exc)
    (case kx_BadRow => k_is)
    (case bx_BadRow => k_is)
    (case tx_BadRow => k_is)
    (case hnO => k_is)
    (case htO => k_is)
    (case pg_Answer => k_is)
    (case hd_Answer => k_is)
    (case po_Answer => k_is)
    (case sa_Answer => k_is)
    (case ha_Answer => k_is)
    (case hm_Answer => k_is)
    (case ma_Answer => k_is)
    (case kc_Answer => k_is)
    (case na_text_Answer => k_is)
    (case na_many_Answer => k_is)
    (case na_levels_Answer => k_is)
    (case oi_Answer => k_is)
    (case ke_Answer_Answer => kit_is)
    (case ke_Filled_Answer => kit_is)
    (case ke_Uneven_Answer => kit_is)
    (case ke_Early_Answer => kit_is)
    (case ke_Late_Answer => kit_is)
    (case ke_Cheapest_Answer => kit_is)
    (case pg_Filled => k_is)
    (case hd_Filled => k_is)
    (case po_Filled => k_is)
    (case sa_Filled => k_is)
    (case ha_Filled => k_is)
    (case hm_Filled => k_is)
    (case ma_Filled => k_is)
    (case kc_Filled => k_is)
    (case na_text_Filled => k_is)
    (case na_many_Filled => k_is)
    (case na_levels_Filled => k_is)
    (case ke_Answer_Filled => kit_is)
    (case ke_Filled_Filled => kit_is)
    (case ke_Uneven_Filled => kit_is)
    (case ke_Early_Filled => kit_is)
    (case ke_Late_Filled => kit_is)
    (case ke_Cheapest_Filled => kit_is)
    (case pg_Uneven => k_is)
    (case hd_Uneven => k_is)
    (case po_Uneven => k_is)
    (case sa_Uneven => k_is)
    (case ha_Uneven => k_is)
    (case hm_Uneven => k_is)
    (case ma_Uneven => k_is)
    (case kc_Uneven => k_is)
    (case na_text_Uneven => k_is)
    (case na_many_Uneven => k_is)
    (case na_levels_Uneven => k_is)
    (case oi_Uneven => k_is)
    (case ke_Answer_Uneven => kit_is)
    (case ke_Filled_Uneven => kit_is)
    (case ke_Uneven_Uneven => kit_is)
    (case ke_Early_Uneven => kit_is)
    (case ke_Late_Uneven => kit_is)
    (case ke_Cheapest_Uneven => kit_is)
    (case pg_Early => k_is)
    (case hd_Early => k_is)
    (case po_Early => k_is)
    (case sa_Early => k_is)
    (case ha_Early => k_is)
    (case hm_Early => k_is)
    (case ma_Early => k_is)
    (case kc_Early => k_is)
    (case na_text_Early => k_is)
    (case na_many_Early => k_is)
    (case na_levels_Early => k_is)
    (case ke_Answer_Early => kit_is)
    (case ke_Filled_Early => kit_is)
    (case ke_Uneven_Early => kit_is)
    (case ke_Early_Early => kit_is)
    (case ke_Late_Early => kit_is)
    (case ke_Cheapest_Early => kit_is)
    (case pg_Late => k_is)
    (case hd_Late => k_is)
    (case po_Late => k_is)
    (case sa_Late => k_is)
    (case ha_Late => k_is)
    (case hm_Late => k_is)
    (case ma_Late => k_is)
    (case kc_Late => k_is)
    (case na_text_Late => k_is)
    (case na_many_Late => k_is)
    (case na_levels_Late => k_is)
    (case ke_Answer_Late => kit_is)
    (case ke_Filled_Late => kit_is)
    (case ke_Uneven_Late => kit_is)
    (case ke_Early_Late => kit_is)
    (case ke_Late_Late => kit_is)
    (case ke_Cheapest_Late => kit_is)
    (case pg_Cheapest => k_is)
    (case hd_Cheapest => k_is)
    (case po_Cheapest => k_is)
    (case sa_Cheapest => k_is)
    (case ha_Cheapest => k_is)
    (case hm_Cheapest => k_is)
    (case ma_Cheapest => k_is)
    (case kc_Cheapest => k_is)
    (case na_text_Cheapest => k_is)
    (case na_many_Cheapest => k_is)
    (case na_levels_Cheapest => k_is)
    (case ke_Answer_Cheapest => kit_is)
    (case ke_Filled_Cheapest => kit_is)
    (case ke_Uneven_Cheapest => kit_is)
    (case ke_Early_Cheapest => kit_is)
    (case ke_Late_Cheapest => kit_is)
    (case ke_Cheapest_Cheapest => kit_is)
#print axioms PySem.Challenge.cw_halftold_k01_whole_filled_holds

