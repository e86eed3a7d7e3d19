import PyProof.Rows.All
import HandS.RevRange
import KE.DataFind
import KE.DatumOrd
import HandS.SortKw
import HandS.Deep
import HandS.Flt
import HandS.Rev
import HandS.RevTup
import HandS.SetFor
import KE.KRevSl
import HandS.HotCalls
import HandS.CallSlots
import HandS.ExcCtx
import PyProof.Rows.StrCut
import HandS.Steps
import HandS.ExcIs
import HandS.IsInst
import HandS.StrMore
import HandS.TupLe
import HandS.Style
import HandS.Walk
import HandS.WordsExc
import HandS.ExcOwn
import HandS.TryOnly
import HandS.Exc
import HandS.ForMost
import KE.GoesMore
import KE.GoesZip
import KE.GoesEnum
import PyProof.StrBlock2
import PyProof.TupleCall
import PyProof.EqKinds
import PyProof.EqAt
import Wide.FinOn
import OpenK.AllK
import Wide.All
import PySem.Challenge.RW_halftold_k07_refused
set_option Elab.async false
set_option linter.all false
set_option maxRecDepth 100000
set_option maxHeartbeats 4000000
/-! Own base layer over HandS. -/
namespace L2
open PySem PySem.Spec PyProof.Rows
/-- an iterator of new pairs: turn i gives (x, y) with pv i x y -/
def ItP (n : Nat) (pv : Nat → V → V → Prop) : It :=
  ⟨fun i _ => i < n, fun i H v H' => ∃ T x y, v = .ref T ∧ H T = none ∧ H' = upd H T (.tup [x, y]) ∧ pv i x y, fun i _ => i = n⟩
theorem turn_pairs (A0 : Around) {P : Program} {w : World} {K : PySem.W.Frag} {elts : List Expr} {kk : Nat} {tpos : Pos} {I0 : Addr} {fp wr : List Addr} {n : Nat} {Pt : Nat → Array Value → Prop} {St : Nat → Heap → Prop} {Mid : Nat → Addr → Heap → Prop}
    (W : ∀ A : Around, A.handled = none → WalksT P w A I0 fp wr n Pt St Mid) (mem : I0 ∈ fp) (obj : ∀ i h, St i h → ∀ b ∈ fp, ∃ o, h.get? b = some o ∧ ∀ v, o.data ≠ .cell v) {pv : Nat → V → V → Prop}
    (hp : ∀ i vals, Pt i vals → ∃ x y u1 u2, vals = #[u1, u2] ∧ RelV x u1 ∧ RelV y u2 ∧ pv i x y)
    (self : ∀ (A : Around) (i : Nat) (s : Shared) (Q : Value → Shared → Prop) (E : Value → Shared → Prop), St i s.heap → Q (.ref I0) s → wpAny (model P w) A (pyIter (.ref I0)) Q E s) :
    Turn P w K (.Tuple elts kk tpos) (ItP n pv) fp I0 St where
  mem := mem
  obj := obj
  keep := fun i h h' st k => (W { A0 with handled := none } rfl).frame i h h' st k
  item := by
    intro X hP hw hK hc i pins s σ H E I hf st hg
    subst hP hw hK
    have W1 := W X.A (I.ok.hd hc)
    have sub : ∀ b ∈ wr, FpOk X pins H b := fun b hb => hf b (W1.sub b hb)
    refine W1.item i s _ _ hg st fun T vals h' tk hv hT hI hM hk => ?_
    refine ⟨_, rfl, W1.go elts kk tpos i T _ _ _ hM fun h'' st'' hk2 => ?_⟩
    obtain ⟨x, y, u1, u2, rfl, r1, r2, q⟩ := hp i vals hv
    have hTw := W1.apart i T h' hM
    have hk3 : ∀ b o, b ∉ wr → s.heap.get? b = some o → h''.get? b = some o := fun b o hb e => hk2 b o hb (hk b o hb e)
    obtain ⟨oT, eT, cT, nT, dT⟩ := hI
    have new : ObjOk X.prog X.w (upd H T (.tup [x, y])) h'' T (.tup [x, y]) :=
      ⟨by show 2 ≤ sizeLine; decide, [u1, u2], .cons r1 (.cons r2 .nil), ⟨oT, hk2 T oT hTw eT, cT, nT, dT⟩⟩
    have I1 : Inv X pins σ (upd H T (.tup [x, y])) { s with heap := h'', toks := tk } := I.turnedNew (ch := wr) hk3 sub hT new
    refine ⟨.ref T, _, I1, rfl, ⟨T, x, y, rfl, I.hok.fresh hT, rfl, q⟩, st'', fun b hb => ?_⟩
    obtain ⟨o, e, _⟩ := obj i s.heap st b hb
    rw [upd_ne (Nat.ne_of_lt (Nat.lt_of_lt_of_le (Heap.lt_size e) hT))]
    exact (hf b hb).1
  done := by
    intro X hP hw hK hc i pins s σ H E I hf st hg
    subst hP hw hK
    have W1 := W X.A (I.ok.hd hc)
    have e : i = n := hg
    subst e
    exact W1.done s _ _ st fun h' tk hk => ⟨rfl, I.turnedL (t' := tk) (ch := wr) hk fun b hb => hf b (W1.sub b hb)⟩
  self := self
theorem walk_pairs {n : Nat} {pv : Nat → V → V → Prop} : Walk (ItP n pv) n (fun _ => True) (fun i H v H' => ∃ T x y, v = .ref T ∧ H T = none ∧ H' = upd H T (.tup [x, y]) ∧ pv i x y) :=
  ⟨fun _ _ hi _ => hi, fun _ _ => rfl, fun _ _ _ _ _ _ y => y⟩
/-! ### enumerate(text) -/
def pvEnS (x : Str) : Nat → V → V → Prop := fun i a b => a = .int (i : Nat) ∧ ∃ c, x.cps[i]? = some c ∧ b = .str ⟨#[c]⟩
def iEnumS (ta : TA) : TI := fun σ H R => ta σ H fun vs H1 => ∃ x, vs = [.str x] ∧ R (ItP x.cps.size (pvEnS x)) H1
theorem pi_enumS {X : Cx} {e : Expr} {ta : TA} {p pos tpos : Pos} {elts : List Expr} {kk : Nat} (hg : Gl X "enumerate") (hm : X.mg "enumerate" = none) (ha : PA X [e] ta) (hs : starEach [e] X.env = [(false, eval e X.env)] := by rfl) :
    PI X (.Tuple elts kk tpos) (.Call (.Name "enumerate" p) [e] [] pos) (iEnumS ta) := by
  refine ⟨fun pins s σ H R I h => ?_⟩
  refine Call_ (ld_blt I hg hm boot_enumerate (PyProof.Rows.callWith_type1 (thn (ha.run pos pins s σ H _ I h) fun us s1 ⟨vs, H1, I1, r1, q1⟩ => ?_) hs rfl))
  obtain ⟨x, ex, q⟩ := q1
  subst ex
  cases r1 with
  | cons r rr =>
    cases rr
    obtain ⟨t, rfl⟩ := r
    refine call_enumerate_str fun h' he hit hsz hk => wpAny_pyIter_enum he ?_
    have I2 : Inv X pins σ H1 { s1 with heap := h' } := I1.kept (t' := s1.toks) hk
    have ne : s1.heap.objs.size + 1 ≠ s1.heap.objs.size := Nat.succ_ne_self _
    refine ⟨s1.heap.objs.size + 1, (s1.heap.objs.size + 1) :: [s1.heap.objs.size], _, _, H1, rfl, I2,
      turn_pairs X.A (fun A hh => WalksT.enumerateD (Draws.text (A := A.in1) hh s1.heap.objs.size x t) (s1.heap.objs.size + 1) ne (by simpa using ne) (by simp)) (by simp) (fun i h st b hb => ?_) (pv := pvEnS x) (fun i vals hv => ?_)
        (fun A i s Q E st h => let ⟨⟨_, he⟩, _⟩ := st; wpAny_pyIter_enum he h), ⟨⟨.none, he⟩, hit⟩, fun b hb => ?_, q⟩
    · obtain ⟨⟨old, he⟩, ⟨o, ho, hc, hd⟩⟩ := st
      have e' : b = s1.heap.objs.size + 1 ∨ b = s1.heap.objs.size := by simpa using hb
      rcases e' with z | z
      · rw [z]; exact ⟨_, he, fun v q => nomatch q⟩
      · rw [z]; exact ⟨o, ho, fun v q => by rw [hd] at q; cases q⟩
    · obtain ⟨t', y, ⟨c, u, hc, rfl⟩, rfl⟩ := hv
      exact ⟨.int (i : Nat), .str ⟨#[c]⟩, _, _, rfl, ⟨_, rfl⟩, ⟨_, rfl⟩, rfl, c, hc, rfl⟩
    · have e' : b = s1.heap.objs.size + 1 ∨ b = s1.heap.objs.size := by simpa using hb
      have hle : s1.heap.objs.size ≤ b := by
        rcases e' with z | z
        · rw [z]; exact Nat.le_add_right _ _
        · rw [z]; exact Nat.le_refl _
      exact I1.fpOk hle (I1.hok.fresh hle)
/-! ### zip(text, text) -/
def pvZS (x y : Str) : Nat → V → V → Prop := fun i a b => (∃ c, x.cps[i]? = some c ∧ a = .str ⟨#[c]⟩) ∧ ∃ d, y.cps[i]? = some d ∧ b = .str ⟨#[d]⟩
def iZipS (ta : TA) : TI := fun σ H R => ta σ H fun vs H1 => ∃ x y, vs = [.str x, .str y] ∧ R (ItP (min x.cps.size y.cps.size) (pvZS x y)) H1
theorem pi_zipS {X : Cx} {e e2 : Expr} {ta : TA} {p pos tpos : Pos} {elts : List Expr} {kk : Nat} (hg : Gl X "zip") (hm : X.mg "zip" = none) (ha : PA X [e, e2] ta)
    (hs : starEach [e, e2] X.env = (false, eval e X.env) :: starEach [e2] X.env := by rfl) (hpl : (backTo pos (starEach [e2] X.env)).any (·.1) = false := by rfl) :
    PI X (.Tuple elts kk tpos) (.Call (.Name "zip" p) [e, e2] [] pos) (iZipS ta) := by
  refine ⟨fun pins s σ H R I h => ?_⟩
  refine Call_ (ld_blt I hg hm PyProof.Rows.boot_zip (PyProof.Rows.callWith_type1 (thn (ha.run pos pins s σ H _ I h) fun us s1 ⟨vs, H1, I1, r1, q1⟩ => ?_) hs hpl))
  obtain ⟨x, y, ex, q⟩ := q1
  subst ex
  cases r1 with
  | cons r rr =>
    cases rr with
    | cons r' rr =>
      cases rr
      obtain ⟨t, rfl⟩ := r
      obtain ⟨t', rfl⟩ := r'
      refine zip_begins2 (begins_text x t) (begins_text y t') trivial trivial fun h' hz hTI hTO g1 g2 hsz hk => wpAny_pyIter_zip hz ?_
      have I2 : Inv X pins σ H1 { s1 with heap := h' } := I1.kept (t' := s1.toks) hk
      have S := zip_sep2 (N := s1.heap.objs.size) (fp1 := []) (fp2 := []) (fun _ z => nomatch z) (fun _ z => nomatch z)
      refine ⟨s1.heap.objs.size + 4, (s1.heap.objs.size + 4) :: (s1.heap.objs.size + 2) :: (s1.heap.objs.size + 3) :: ([s1.heap.objs.size] ++ [s1.heap.objs.size + 1]), _, _, H1, rfl, I2,
        turn_pairs X.A (fun A hh => WalksT.zipD2 S (Draws.text (A := A.in1) hh s1.heap.objs.size x t) (Draws.text (A := A.in1) hh (s1.heap.objs.size + 1) y t')) (by simp) (fun i h st b hb => ?_) (pv := pvZS x y) (fun i vals hv => ?_)
          (fun A i s Q E st h => wpAny_pyIter_zip st.1 h), ⟨hz, hTI, ⟨_, _, hTO⟩, ⟨_, g1, rfl, rfl⟩, ⟨_, g2, rfl, rfl⟩⟩, fun b hb => ?_, q⟩
      · obtain ⟨hz, hTI, ⟨a1, a2, hTO⟩, ⟨o1, e1, _, d1⟩, ⟨o2, e2, _, d2⟩⟩ := st
        have e' : b = s1.heap.objs.size + 4 ∨ b = s1.heap.objs.size + 2 ∨ b = s1.heap.objs.size + 3 ∨ b = s1.heap.objs.size ∨ b = s1.heap.objs.size + 1 := by simpa using hb
        rcases e' with z | z | z | z | z
        · rw [z]; exact ⟨_, hz, fun v q => nomatch q⟩
        · rw [z]; exact ⟨_, hTI, fun v q => nomatch q⟩
        · rw [z]; exact ⟨_, hTO, fun v q => nomatch q⟩
        · rw [z]; exact ⟨o1, e1, fun v q => by rw [d1] at q; cases q⟩
        · rw [z]; exact ⟨o2, e2, fun v q => by rw [d2] at q; cases q⟩
      · obtain ⟨x1, x2, ⟨c, u, hc, rfl⟩, ⟨d, u2, hd, rfl⟩, rfl⟩ := hv
        exact ⟨.str ⟨#[c]⟩, .str ⟨#[d]⟩, _, _, rfl, ⟨_, rfl⟩, ⟨_, rfl⟩, ⟨c, hc, rfl⟩, d, hd, rfl⟩
      · have e' : b = s1.heap.objs.size + 4 ∨ b = s1.heap.objs.size + 2 ∨ b = s1.heap.objs.size + 3 ∨ b = s1.heap.objs.size ∨ b = s1.heap.objs.size + 1 := by simpa using hb
        have hle : s1.heap.objs.size ≤ b := by
          rcases e' with z | z | z | z | z
          · rw [z]; exact Nat.le_add_right _ _
          · rw [z]; exact Nat.le_add_right _ _
          · rw [z]; exact Nat.le_add_right _ _
          · rw [z]; exact Nat.le_refl _
          · rw [z]; exact Nat.le_add_right _ _
        exact I1.fpOk hle (I1.hok.fresh hle)
/-! ### text * int -/
def rMulS : R2 := fun x y H Q => ∃ a n, x = .str a ∧ y = .int n ∧ MulOk a n ∧ Q (.str (Txt.mul a n)) H
theorem op_mulS {X : Cx} : OpR X (binaryOp .Mult) rMulS := by
  intro pins s σ H x y v u Q I rx ry h
  obtain ⟨a, n, rfl, rfl, ho, q⟩ := h
  obtain ⟨t, rfl⟩ := rx
  obtain ⟨t', rfl⟩ := ry
  exact SB.mul ho fun t' k => ⟨.str (Txt.mul a n), H, I.tok _, ⟨_, rfl⟩, q⟩
end L2

set_option Elab.async false
set_option linter.all false
set_option maxRecDepth 100000
set_option maxHeartbeats 4000000
/-! Texts as lists of codes. -/
namespace L2
open PySem PySem.Spec PyProof.Rows PySem.Builtin PySem.Builtin.Str PySem.StrLaws
/-- the text of codes l -/
abbrev St_ (l : List Nat) : Str := ⟨l.toArray⟩
abbrev S (l : List Nat) : V := .str (St_ l)
/-- one sign -/
abbrev ch (c : Nat) : V := .str ⟨#[c]⟩
theorem S_one (c : Nat) : S [c] = ch c := rfl
theorem lit_op : (Str.ofString "(") = St_ [40] := by decide +kernel
theorem lit_cl : (Str.ofString ")") = St_ [41] := by decide +kernel
theorem lit_q : (Str.ofString "?") = St_ [63] := by decide +kernel
theorem lit_e : (Str.ofString "") = St_ [] := by decide +kernel
theorem lit_oc : (Str.ofString "()") = St_ [40, 41] := by decide +kernel
theorem lit_co : (Str.ofString ")(") = St_ [41, 40] := by decide +kernel
theorem lit_ocq : (Str.ofString "()?") = St_ [40, 41, 63] := by decide +kernel
theorem S_inj {a b : List Nat} : (S a = S b) = (a = b) := by
  apply propext
  constructor
  · intro h
    have h1 : (St_ a).cps = (St_ b).cps := by rw [V.str.inj h]
    simpa using congrArg Array.toList h1
  · intro h; rw [h]
theorem ch_inj {a b : Nat} : (ch a = ch b) = (a = b) := by
  have := S_inj (a := [a]) (b := [b])
  simpa using this
theorem len_S (l : List Nat) : (St_ l).length = l.length := by simp [Str.length]
theorem add_S (a b : List Nat) : St_ a ++ St_ b = St_ (a ++ b) := by
  have h : St_ a ++ St_ b = (⟨(St_ a).cps ++ (St_ b).cps⟩ : Str) := rfl
  rw [h]
  simp
/-! ### slices -/
theorem cut_from (l : List Nat) (a : Nat) : cutS (St_ l) (some (a : Int)) none = St_ (l.drop a) := by
  unfold cutS
  rw [HT.sIx_nat, HT.sIx_none, len_S]
  show St_ ((l.drop (min a l.length)).take (l.length - min a l.length)) = _
  have e : l.drop (min a l.length) = l.drop a := by
    by_cases h : a ≤ l.length
    · rw [Nat.min_eq_left h]
    · rw [Nat.min_eq_right (by omega), List.drop_length, List.drop_of_length_le (by omega)]
  rw [e, List.take_of_length_le]
  rw [List.length_drop]; omega
theorem cut_to (l : List Nat) (a : Nat) : cutS (St_ l) none (some (a : Int)) = St_ (l.take a) := by
  unfold cutS
  rw [HT.sIx_nat, HT.sIx_none, len_S]
  show St_ ((l.drop 0).take (min a l.length - 0)) = _
  rw [List.drop_zero, Nat.sub_zero]
  by_cases h : a ≤ l.length
  · rw [Nat.min_eq_left h]
  · rw [Nat.min_eq_right (by omega), List.take_length, List.take_of_length_le (by omega)]
theorem cut_neg (l : List Nat) : cutS (St_ l) (some 1) (some (-1)) = St_ ((l.drop 1).take (l.length - 2)) := by
  have e : HT.sIx l.length l.length (some (-1)) = l.length - 1 := by
    show (if (-1 : Int) < 0 then ((-1 : Int) + (l.length : Int)).toNat else min (-1 : Int).toNat l.length) = l.length - 1
    rw [if_pos (by decide)]; omega
  have e2 : HT.sIx l.length 0 (some 1) = min 1 l.length := HT.sIx_nat l.length 0 1
  unfold cutS
  rw [len_S, e2, e]
  show St_ ((l.drop (min 1 l.length)).take (l.length - 1 - min 1 l.length)) = St_ ((l.drop 1).take (l.length - 2))
  cases l with
  | nil => rfl
  | cons x r =>
    have e1 : min 1 (x :: r).length = 1 := by simp
    rw [e1]
    simp
/-! ### join -/
theorem glued_nil (ls : List (List Nat)) (a : List Nat) : (ls.map St_).foldl (fun acc p => acc ++ (St_ []).cps ++ p.cps) a.toArray = (a ++ ls.flatten).toArray := by
  induction ls generalizing a with
  | nil => simp
  | cons x r ih =>
    have e : a.toArray ++ (St_ []).cps ++ (St_ x).cps = (a ++ x).toArray := by simp
    rw [List.map_cons, List.foldl_cons, e, ih]
    simp
theorem join_S (ls : List (List Nat)) : Txt.join (St_ []) (ls.map St_) = St_ ls.flatten := by
  show glued (St_ []) (ls.map St_) = _
  unfold glued
  cases ls with
  | nil => rfl
  | cons x r =>
    have h := glued_nil r x
    show (⟨((r.map St_).foldl (fun acc p => acc ++ (St_ []).cps ++ p.cps) x.toArray)⟩ : Str) = _
    rw [h]
    simp
theorem flat_one (l : List Nat) : (l.map fun c => [c]).flatten = l := by
  induction l with
  | nil => rfl
  | cons x r ih => simp [ih]
theorem join_ch (l : List Nat) : Txt.join (St_ []) ((l.map fun c => [c]).map St_) = St_ l := by rw [join_S, flat_one]
theorem sum_ch (l : List Nat) : ((((l.map fun c => [c]).map St_).map (·.length)).sum + ((l.map fun c => [c]).map St_).length * (St_ []).length) = l.length := by
  have e : (((l.map fun c => [c]).map St_).map (·.length)).sum = l.length := by
    induction l with
    | nil => rfl
    | cons x r ih =>
      rw [List.map_cons, List.map_cons, List.map_cons, List.sum_cons, ih, len_S, List.length_cons]
      show 1 + r.length = r.length + 1
      omega
  rw [e, len_S]
  simp
theorem map_ch (l : List Nat) : ((l.map fun c => [c]).map St_).map V.str = l.map ch := by
  simp
/-! ### count -/
theorem occ_count (l : List Nat) (c : Nat) : ∀ (k n : Nat) (st : Array Nat × Nat), n + k = l.length + 1 → st.2 ≤ n → st.1.size ≤ n →
    (forIn (List.range' n k) st (occBody (St_ l) ⟨#[c]⟩ l.length (l.length + 1))).run.fst.size = st.1.size + (l.drop n).count c
  | 0, n, st, h, _, _ => by
    rw [List.drop_of_length_le (by omega)]
    simp
  | k + 1, n, st, h, h2, h3 => by
    rw [show List.range' n (k + 1) = n :: List.range' (n + 1) k from rfl, List.forIn_cons]
    by_cases hn : n < l.length
    · have ed : l.drop n = l[n] :: l.drop (n + 1) := List.drop_eq_getElem_cons hn
      have hs := subAt_one (St_ l) c n
      rw [len_S] at hs
      by_cases hc : l[n] = c
      · have hx : (St_ l).cps.toList[n]? = some c := by
          show l[n]? = some c
          rw [List.getElem?_eq_getElem hn, hc]
        obtain ⟨a1, a2⟩ := hs.mpr hx
        unfold occBody
        rw [if_pos ⟨⟨⟨by omega, h2⟩, a1⟩, a2⟩]
        have ih := occ_count l c k (n + 1) (st.1.push n, n + (⟨#[c]⟩ : Str).length) (by omega) (Nat.le_refl _) (by simp; omega)
        have e1 : (forIn (List.range' (n + 1) k) (st.1.push n, n + (⟨#[c]⟩ : Str).length) (occBody (St_ l) ⟨#[c]⟩ l.length (l.length + 1))).run.fst.size = st.1.size + (l.drop n).count c := by
          rw [ih, ed, List.count_cons, hc]
          simp
          omega
        exact e1
      · have hx : ¬ (n + (⟨#[c]⟩ : Str).length ≤ l.length ∧ subAt (St_ l) ⟨#[c]⟩ n = true) := fun q => by
          have := hs.mp q
          have e : l[n]? = some c := this
          rw [List.getElem?_eq_getElem hn] at e
          exact hc (Option.some.inj e)
        unfold occBody
        rw [if_neg fun q => hx ⟨q.1.2, q.2⟩]
        have ih := occ_count l c k (n + 1) (st.1, st.2) (by omega) (by show st.2 ≤ n + 1; omega) (by show st.1.size ≤ n + 1; omega)
        have e1 : (forIn (List.range' (n + 1) k) (st.1, st.2) (occBody (St_ l) ⟨#[c]⟩ l.length (l.length + 1))).run.fst.size = st.1.size + (l.drop n).count c := by
          rw [ih, ed, List.count_cons]
          simp [hc]
        exact e1
    · have hx : ¬ (n + (⟨#[c]⟩ : Str).length ≤ l.length) := by
        show ¬ (n + 1 ≤ l.length)
        omega
      unfold occBody
      rw [if_neg fun q => hx q.1.2]
      have ih := occ_count l c k (n + 1) (st.1, st.2) (by omega) (by show st.2 ≤ n + 1; omega) (by show st.1.size ≤ n + 1; omega)
      have e1 : (forIn (List.range' (n + 1) k) (st.1, st.2) (occBody (St_ l) ⟨#[c]⟩ l.length (l.length + 1))).run.fst.size = st.1.size + (l.drop n).count c := by
        rw [ih, List.drop_of_length_le (by omega), List.drop_of_length_le (by omega)]
      exact e1
theorem count_S (l : List Nat) (c : Nat) : Txt.count (St_ l) ⟨#[c]⟩ = (l.count c : Nat) := by
  unfold Txt.count
  rw [occ_eq, len_S]
  have h := occ_count l c (l.length + 1 - 0) 0 (#[], 0) (by omega) (Nat.le_refl _) (by simp)
  rw [Array.length_toList]
  simp only [List.drop_zero] at h
  rw [h]
  simp
/-! ### strip -/
theorem drop_tw (p : Nat → Bool) : ∀ l : List Nat, l.drop (l.takeWhile p).length = l.dropWhile p
  | [] => rfl
  | x :: r => by
    cases h : p x with
    | true => rw [List.takeWhile_cons, List.dropWhile_cons, h]; simpa using drop_tw p r
    | false => rw [List.takeWhile_cons, List.dropWhile_cons, h]; simp
theorem dw_nil (p : Nat → Bool) : ∀ l : List Nat, l.dropWhile p = [] → ∀ c ∈ l, p c = true
  | [], _, c, hc => by cases hc
  | x :: r, h, c, hc => by
    cases hx : p x with
    | true =>
      rw [List.dropWhile_cons, hx] at h
      rcases List.mem_cons.mp hc with e | e
      · rw [e]; exact hx
      · exact dw_nil p r (by simpa using h) c e
    | false =>
      rw [List.dropWhile_cons, hx] at h
      simp at h
theorem tw_le (p : Nat → Bool) : ∀ l : List Nat, (l.takeWhile p).length ≤ l.length
  | [] => Nat.le_refl _
  | x :: r => by
    rw [List.takeWhile_cons]
    split
    · have := tw_le p r
      simp only [List.length_cons]; omega
    · simp
theorem tw_all (p : Nat → Bool) : ∀ l : List Nat, (∀ c ∈ l, p c = true) → l.takeWhile p = l
  | [], _ => rfl
  | x :: r, h => by
    rw [List.takeWhile_cons, h x (List.mem_cons_self ..)]
    simp only [if_true]
    rw [tw_all p r fun c hc => h c (List.mem_cons_of_mem _ hc)]
theorem strip_S (l m : List Nat) : (Txt.stripChars (St_ l) (St_ m) = St_ []) ↔ ∀ c ∈ l, c ∈ m := by
  unfold Txt.stripChars
  rw [PyProof.Rows.stripBy_eq]
  have hg : ∀ c, (St_ m).cps.contains c = m.contains c := fun c => by simp
  have hlo : stripLo (St_ m).cps.contains true (St_ l) = (l.takeWhile m.contains).length := by
    unfold stripLo
    rw [if_pos rfl]
    show (l.takeWhile _).length = _
    congr 1
    congr 1
    funext c
    exact hg c
  constructor
  · intro h c hc
    refine Classical.byContradiction fun hn => ?_
    have h1 : ((St_ l).cps.extract (stripLo (St_ m).cps.contains true (St_ l)) (stripHi (St_ m).cps.contains true (St_ l) (stripLo (St_ m).cps.contains true (St_ l)))).size = 0 := by
      have := congrArg (fun s : Str => s.cps.size) h
      simpa [strSub] using this
    rw [Array.size_extract] at h1
    rw [hlo] at h1
    have hsz : (St_ l).cps.size = l.length := by simp
    rw [hsz] at h1
    -- the first that is not in m
    obtain ⟨x, r, he⟩ : ∃ x r, l.dropWhile m.contains = x :: r := by
      cases hd : l.dropWhile m.contains with
      | cons x r => exact ⟨x, r, rfl⟩
      | nil =>
        have := dw_nil _ l hd c hc
        exact absurd (by simpa using this) hn
    have hx : m.contains x = false := by
      have := List.head?_dropWhile_not m.contains l
      rw [he] at this
      simpa using this
    have happ : l.takeWhile m.contains ++ l.dropWhile m.contains = l := List.takeWhile_append_dropWhile
    have hlen : (l.takeWhile m.contains).length + (l.dropWhile m.contains).length = l.length := by
      rw [← List.length_append, happ]
    rw [he] at hlen
    simp only [List.length_cons] at hlen
    have hhi : (l.takeWhile m.contains).length < stripHi (St_ m).cps.contains true (St_ l) (l.takeWhile m.contains).length := by
      unfold stripHi
      rw [if_pos rfl, len_S]
      have ed : (St_ l).cps.toList.drop (l.takeWhile m.contains).length = x :: r := by
        show l.drop _ = _
        rw [drop_tw, he]
      rw [ed]
      have e3 : ((x :: r).reverse.takeWhile (St_ m).cps.contains).length ≤ r.length := by
        rw [List.reverse_cons, List.takeWhile_append]
        split
        · rename_i hh
          simp only [List.length_append, List.takeWhile_cons, hg, hx]
          simp [hh]
        · have := tw_le (St_ m).cps.contains r.reverse
          simp only [List.length_reverse] at this
          exact this
      omega
    omega
  · intro h
    have e : l.takeWhile m.contains = l := by
      refine tw_all _ l fun c hc => ?_
      simpa using h c hc
    rw [hlo, e]
    unfold strSub
    have : (St_ l).cps.extract l.length (stripHi (St_ m).cps.contains true (St_ l) l.length) = #[] := by
      apply Array.eq_empty_of_size_eq_zero
      rw [Array.size_extract]
      have hsz : (St_ l).cps.size = l.length := by simp
      omega
    rw [this]
/-! ### times -/
theorem mul_S (l : List Nat) (n : Nat) : Txt.mul (St_ l) (n : Int) = St_ (List.replicate n l).flatten := by
  unfold Txt.mul
  by_cases h0 : n = 0
  · subst h0; rfl
  rw [if_neg (by omega)]
  by_cases h1 : ((n : Int) == 1 || (St_ l).length == 0) = true
  · rw [if_pos h1]
    rw [Bool.or_eq_true] at h1
    rcases h1 with h | h
    · have : n = 1 := by have := eq_of_beq h; omega
      subst this
      simp
    · have : l = [] := by
        have := eq_of_beq h
        rw [len_S] at this
        exact List.length_eq_zero_iff.mp this
      subst this
      have : ∀ k, (List.replicate k ([] : List Nat)).flatten = [] := fun k => by simp
      rw [this]
  · rw [if_neg h1]
    have key : ∀ (k : Nat) (a : List Nat), (List.replicate k (St_ l).cps).foldl (· ++ ·) a.toArray = (a ++ (List.replicate k l).flatten).toArray := by
      intro k
      induction k with
      | zero => intro a; simp
      | succ k ih =>
        intro a
        rw [List.replicate_succ, List.foldl_cons]
        have e : a.toArray ++ (St_ l).cps = (a ++ l).toArray := by simp
        rw [e, ih, List.replicate_succ]
        simp
    have := key n []
    simp only [List.nil_append] at this
    rw [Int.toNat_natCast]
    show (⟨_⟩ : Str) = _
    rw [this]
theorem mulOk_S (l : List Nat) (n : Nat) (h : l.length * n ≤ 16777216) (hn : n ≤ 1000000) : MulOk (St_ l) (n : Int) := by
  refine ⟨?_, fun _ _ => ?_, fun _ _ => ?_⟩
  · rw [decide_eq_false (by omega), decide_eq_false (by omega)]
    rfl
  · rw [len_S]
    intro q
    by_cases h0 : n = 0
    · subst h0; omega
    · have h2 : ((2 : Int) ^ 63 - 1) / (n : Int) ≥ 16777216 := by
        apply Int.le_ediv_of_mul_le (by omega)
        have : (16777216 : Int) * (n : Int) ≤ 16777216 * 1000000 := by omega
        omega
      have h3 : l.length ≤ 16777216 := by
        have : l.length * 1 ≤ l.length * n := Nat.mul_le_mul_left _ (by omega)
        omega
      omega
  · rw [len_S, Int.toNat_natCast]
    unfold tooLong
    rw [sizeLine_eq]
    simp
    omega
end L2

set_option Elab.async false
set_option linter.all false
set_option maxRecDepth 100000
set_option maxHeartbeats 4000000
/-! Loops, comprehensions, defs. -/
namespace L2
open PySem PySem.Spec PyProof.Rows
theorem passLN {X : Cx} : Passes (L2N.CX X.prog X.w) X E0 := fun _ _ _ _ _ _ _ h => by
  obtain ⟨_, _, _, _, _, _, _, _, _, _, _, _, z⟩ := h
  exact z.elim
/-- around a body nothing is let out -/
theorem takes0N {X : Cx} : L2N.Takes X (fun _ _ _ _ => False) := fun _ _ x => by
  obtain ⟨_, _, _, _, _, _, _, _, _, _, _, _, _, _, _, _, z⟩ := x
  exact z.elim
theorem Fun.okXN {P : Program} {w : World} {K : PySem.W.Frag} {mg : Str → Option Value} {base : Heap} {x qual : Str} {st : Stmt} {f : Addr} {fd : FuncData} {N ps : List Str} {k : Nat} {sp : Sp} (F : Fun K x qual st f fd) (S : FnScope N ps (defScope st)) (len : ∀ vs H Q E, sp vs H Q E → vs.length = ps.length)
    (hbody : ∀ (cdv : Value) (A : Around) (outer : List Env) (s : Shared) (H : Hp) (vs : List V) (Q : VK) (E : XK), Room k (A.deeper (envOfC qual (defScope st) s.heap.objs.size f cdv)) → sp vs H Q E →
      ∃ t, PSs (cxOf (L2N.CX P w) P w K mg base N qual (defScope st) f cdv A outer s H E) (defBody st) t ∧ t { nx := fun _ H' => Q .non H', rt := Q } (start N vs) H) : FnOk P w K mg base (L2N.CX P w) (k + 1) f fd ps sp := by
  obtain ⟨oc, od, kV, doc, pm, an, cdv, ct, osl, rfl, lk, hcd⟩ := F.ex
  exact fn_of lk hcd S len fun A outer s H vs Q E hr hsp => hbody cdv A outer s H vs Q E hr hsp
/-- a def of the text as it stands -/
structure DefIn (K : PySem.W.Frag) (mg : Str → Option Value) (x q : Str) (st : Stmt) (ps : List Str) : Type where
  a : Addr
  fd : FuncData
  F : Fun K x q st a fd
  g : mg x = some (.ref a)
  b : Binds K fd ps []
theorem Same.new {H : Hp} {p : Addr} {o : HO} (h : H p = none) : Same H (upd H p o) := fun b x e => by
  rw [upd_ne (ne_of_none e h)]
  exact e
/-- what H does not know may change -/
theorem Same.mut {H H' : Hp} {p : Addr} {o : HO} (e : Same H H') (h : H p = none) : Same H (upd H' p o) := fun a u ha => by
  rw [upd_ne (ne_of_none ha h)]
  exact e a u ha
theorem Same.seqT {K : PySem.W.Frag} {H H' : Hp} {a : Addr} {xs : List V} (e : Same H H') (h : SqT K H a xs) : SqT K H' a xs := by
  rcases h with (h | ⟨o, h⟩) | h
  · exact .inl (.inl (e _ _ h))
  · exact .inl (.inr ⟨o, e _ _ h⟩)
  · exact .inr h
theorem sz5 {n : Nat} (h : n ≤ 100000) : n ≤ sizeLine := Nat.le_trans h (by decide)
theorem sz5l {n : Nat} (h : n ≤ 100000) : n < sizeLine := Nat.lt_of_le_of_lt h (by decide)
theorem szS {l : List Nat} (h : l.length ≤ 100000) : (St_ l).length ≤ sizeLine := by rw [len_S]; exact sz5 h
theorem take_split {α : Type} {l : List α} {i : Nat} {c : α} (h : l[i]? = some c) : l = l.take i ++ c :: l.drop (i + 1) ∧ l.take (i + 1) = l.take i ++ [c] ∧ (l.take i).length = i := by
  obtain ⟨hi, e⟩ := List.getElem?_eq_some_iff.mp h
  refine ⟨?_, ?_, ?_⟩
  · rw [← e, ← List.drop_eq_getElem_cons hi, List.take_append_drop]
  · rw [List.take_add_one, h]; rfl
  · rw [List.length_take]; omega
section
variable {K : PySem.W.Frag} {g : TG} {tb : TS} {D : Ends} {σ : St} {H : Hp}
abbrev LoopOk (J : It) (g : TG) (tb : TS) (D : Ends) (σ : St) (H : Hp) : Prop :=
  ∃ W : Nat → Nat → St → Hp → Prop, (∃ m, W 0 m σ H) ∧ ∀ i m σ H, W i m σ H →
      (J.stop i H ∧ D.nx σ H) ∨ (J.go i H ∧ ∃ N : St → Hp → Prop, (∀ σ' H', N σ' H' → ∃ m', m' < m ∧ W (i + 1) m' σ' H') ∧ ∀ x H', J.yld i H x H' → g x σ H' fun σ2 H2 => tb { D with nx := N, ct := N, bk := D.nx } σ2 H2)
/-- for c in text -/
theorem for_txt {l : List Nat} (Pv : List Nat → St → Hp → Prop) (h0 : Pv [] σ H)
    (hs : ∀ p c r σ H, l = p ++ c :: r → Pv p σ H → g (ch c) σ H fun σ2 H2 => tb { D with nx := Pv (p ++ [c]), ct := Pv (p ++ [c]), bk := D.nx } σ2 H2) (hd : ∀ σ H, Pv l σ H → D.nx σ H) : LoopOk (Its (St_ l)) g tb D σ H := by
  refine for_it (walk_str (z := St_ l)) (fun i σ H => Pv (l.take i) σ H) h0 (fun _ _ _ _ _ => trivial) (fun i x σ H H' hi p y => ?_) (fun σ H p => hd σ H ?_)
  · obtain ⟨rfl, c, hc, rfl⟩ := y
    have hc' : l[i]? = some c := by simpa using hc
    obtain ⟨e1, e2, e3⟩ := take_split hc'
    rw [e2]
    exact hs _ c _ σ _ e1 p
  · have e : l.take (St_ l).cps.size = l := List.take_of_length_le (by simp)
    rw [e] at p
    exact p
theorem g2 {i j : Nat} {T : Addr} {x y : V} {Q : St → Hp → Prop} (h : H T = some (.tup [x, y])) (q : Q ((σ.set i (some x)).set j (some y)) H) : gTup K 2 (gCons (gName i) (gCons (gName j) gNil)) (.ref T) σ H Q :=
  ⟨T, [x, y], rfl, SqT.of h, rfl, x, [y], rfl, y, [], rfl, rfl, q⟩
/-- for i, c in enumerate(text) -/
theorem for_enS {l : List Nat} {i j : Nat} (Pv : List Nat → St → Hp → Prop) (h0 : Pv [] σ H)
    (hs : ∀ p c r σ H H', l = p ++ c :: r → Pv p σ H → Same H H' → tb { D with nx := Pv (p ++ [c]), ct := Pv (p ++ [c]), bk := D.nx } ((σ.set i (some (.int (p.length : Nat)))).set j (some (ch c))) H') (hd : ∀ σ H, Pv l σ H → D.nx σ H) :
    LoopOk (ItP (St_ l).cps.size (pvEnS (St_ l))) (gTup K 2 (gCons (gName i) (gCons (gName j) gNil))) tb D σ H := by
  refine for_it walk_pairs (fun i σ H => Pv (l.take i) σ H) h0 (fun _ _ _ _ _ => trivial) (fun i x σ H H' hi p y => ?_) (fun σ H p => hd σ H ?_)
  · obtain ⟨T, x, y, rfl, nT, rfl, rfl, c, hc, rfl⟩ := y
    have hc' : l[i]? = some c := by simpa using hc
    obtain ⟨e1, e2, e3⟩ := take_split hc'
    refine g2 upd_same ?_
    rw [e2]
    have z := hs _ c _ σ H (upd H T (.tup [.int (i : Nat), ch c])) e1 p (Same.new nT)
    rw [e3] at z
    exact z
  · have e : l.take (St_ l).cps.size = l := List.take_of_length_le (by simp)
    rw [e] at p
    exact p
/-- for x in a list that stands still; the list is f of xs -/
theorem for_lstM {α : Type} {f : α → V} {xs : List α} {a : Addr} (Pv : List α → St → Hp → Prop) (h0 : Pv [] σ H) (hl : ∀ p σ H, Pv p σ H → SqL K H a (xs.map f))
    (hs : ∀ p c r σ H, xs = p ++ c :: r → Pv p σ H → g (f c) σ H fun σ2 H2 => tb { D with nx := Pv (p ++ [c]), ct := Pv (p ++ [c]), bk := D.nx } σ2 H2) (hd : ∀ σ H, Pv xs σ H → D.nx σ H) : LoopOk (Itl K a) g tb D σ H := by
  refine for_it (walk_list (K := K) (a := a) (xs := xs.map f)) (fun i σ H => Pv (xs.take i) σ H) h0 (fun _ _ _ _ p => hl _ _ _ p) (fun i x σ H H' hi p y => ?_) (fun σ H p => hd σ H ?_)
  · obtain ⟨rfl, hx⟩ := y
    rw [List.getElem?_map] at hx
    cases hc : xs[i]? with
    | none => rw [hc] at hx; cases hx
    | some c =>
      rw [hc] at hx
      have hx : f c = x := Option.some.inj hx
      subst hx
      obtain ⟨e1, e2, e3⟩ := take_split hc
      rw [e2]
      exact hs _ c _ σ _ e1 p
  · have e : xs.take (xs.map f).length = xs := List.take_of_length_le (by simp)
    rw [e] at p
    exact p
/-- for i, x in enumerate(a list that stands still) -/
theorem for_enL {α : Type} {f : α → V} {xs : List α} {a : Addr} {i j : Nat} (Pv : List α → St → Hp → Prop) (h0 : Pv [] σ H) (hl : ∀ p σ H, Pv p σ H → SqL K H a (xs.map f))
    (hs : ∀ p c r σ H H', xs = p ++ c :: r → Pv p σ H → Same H H' → tb { D with nx := Pv (p ++ [c]), ct := Pv (p ++ [c]), bk := D.nx } ((σ.set i (some (.int (p.length : Nat)))).set j (some (f c))) H') (hd : ∀ σ H, Pv xs σ H → D.nx σ H) :
    LoopOk (Ite K a) (gTup K 2 (gCons (gName i) (gCons (gName j) gNil))) tb D σ H := by
  refine for_it (walk_enum (K := K) (a := a) (xs := xs.map f)) (fun i σ H => Pv (xs.take i) σ H) h0 (fun _ _ _ _ p => hl _ _ _ p) (fun i x σ H H' hi p y => ?_) (fun σ H p => hd σ H ?_)
  · obtain ⟨T, x, y, rfl, nT, rfl, hx1, hx⟩ := y
    have hx1 : V.int (i : Nat) = x := Option.some.inj hx1
    subst hx1
    have hx : (xs.map f)[i]? = some y := hx
    rw [List.getElem?_map] at hx
    cases hc : xs[i]? with
    | none => rw [hc] at hx; cases hx
    | some c =>
      rw [hc] at hx
      have hx : f c = y := Option.some.inj hx
      subst hx
      obtain ⟨e1, e2, e3⟩ := take_split hc
      refine g2 upd_same ?_
      rw [e2]
      have z := hs _ c _ σ H (upd H T (.tup [.int (i : Nat), f c])) e1 p (Same.new nT)
      rw [e3] at z
      exact z
  · have e : xs.take (xs.map f).length = xs := List.take_of_length_le (by simp)
    rw [e] at p
    exact p
end
/-! ### comprehensions -/
abbrev CompOk (J : It) (g : TG) (tt : TT) (te : TE) (vs : List Nat) (σ : St) (H1 : Hp) (D : Addr) (Qd : Hp → Prop) : Prop :=
    ∃ W : Nat → Nat → Hp → Prop, (∃ m, W 0 m (upd H1 D (.lst []))) ∧ ∀ i m H, W i m H →
      (J.stop i H ∧ Qd H) ∨ (J.go i H ∧ ∃ Nx : Hp → Prop, (∀ H', Nx H' → ∃ m', m' < m ∧ W (i + 1) m' H') ∧ ∀ x H', J.yld i H x H' → g x (wipe σ vs) H' fun σ2 H2 => wipe σ2 vs = wipe σ vs ∧ tt σ2 H2 fun b H3 =>
        if b = true then te σ2 H3 fun y H4 => ∃ acc, H4 D = some (.lst acc) ∧ acc.length < sizeLine ∧ Nx (upd H4 D (.lst (acc ++ [y]))) else Nx H3)
section
variable {J : It} {n : Nat} {G : Hp → Prop} {Y : Nat → Hp → V → Hp → Prop} {g : TG} {tt : TT} {te : TE} {vs : List Nat} {σ : St} {H1 : Hp} {D : Addr} {Qd : Hp → Prop}
/-- no test, the element gives f i and leaves what stands -/
theorem lc_pure (w : Walk J n G Y) (f : Nat → V) (hD : H1 D = none) (hn : n ≤ 100000) (hG : ∀ H, Same H1 H → G H) (hY : ∀ i H x H', Y i H x H' → Same H H')
    (he : ∀ i x H H', i < n → Same H1 H → Y i H x H' → Same H1 H' → ∀ (Q : VK) (R : Hp → Prop), (∀ H4, Same H' H4 → Q (f i) H4) → g x (wipe σ vs) H' fun σ2 H2 => wipe σ2 vs = wipe σ vs ∧ tt σ2 H2 fun b H3 => if b = true then te σ2 H3 Q else R H3)
    (hd : ∀ H, Same H1 H → H D = some (.lst ((List.range n).map f)) → Qd H) : CompOk J g tt te vs σ H1 D Qd := by
  refine lc_it w (fun i H => Same H1 H ∧ H D = some (.lst ((List.range i).map f))) ⟨Same.new hD, upd_same⟩ (fun i H _ p => hG H p.1) (fun i x H H' hi p y => ?_) (fun H p => hd H p.1 p.2)
  have s1 := hY i H x H' y
  refine he i x H H' hi p.1 y (p.1.trans s1) _ _ fun H4 s2 => ?_
  have e4 := s2 _ _ (s1 _ _ p.2)
  refine ⟨_, e4, ?_, ((p.1.trans s1).trans s2).mut hD, ?_⟩
  · rw [List.length_map, List.length_range]; exact sz5l (by omega)
  · rw [upd_same, List.range_succ, List.map_append]; rfl
end
theorem ixN_nat {n j : Nat} (h : j < n) : ixN n (j : Int) = some j := by
  unfold ixN
  rw [if_pos (by omega), if_pos (by omega), Int.toNat_natCast]
theorem map_k {α β : Type} (b : β) : ∀ l : List α, l.map (fun _ => b) = List.replicate l.length b
  | [] => rfl
  | _ :: r => by rw [List.map_cons, map_k b r]; rfl
theorem rangeMapN {α : Type} (l : List α) (F : α → V) (d : α) : (List.range l.length).map (fun i => F (l.getD i d)) = l.map F := by
  apply List.ext_getElem
  · simp
  · intro i h1 h2
    simp at h1
    simp [List.getD, h1]
section
variable {K : PySem.W.Frag} {tt : TT} {te : TE} {vs : List Nat} {σ : St} {H1 : Hp} {D : Addr} {Qd : Hp → Prop}
/-- [F c for c in text] -/
theorem lc_txt {l : List Nat} {j : Nat} (F : Nat → V) (hD : H1 D = none) (hn : l.length ≤ 100000) (hw : ∀ x, wipe ((wipe σ vs).set j (some x)) vs = wipe σ vs)
    (he : ∀ c H', c ∈ l → Same H1 H' → ∀ (Q : VK) (R : Hp → Prop), (∀ H4, Same H' H4 → Q (F c) H4) → tt ((wipe σ vs).set j (some (ch c))) H' fun b H3 => if b = true then te ((wipe σ vs).set j (some (ch c))) H3 Q else R H3)
    (hd : ∀ H, Same H1 H → H D = some (.lst (l.map F)) → Qd H) : CompOk (Its (St_ l)) (gName j) tt te vs σ H1 D Qd := by
  have hsz : (St_ l).cps.size = l.length := by simp
  refine lc_pure (walk_str (z := St_ l)) (fun i => F (l.getD i 0)) hD (by rw [hsz]; exact hn) (fun _ _ => trivial) (fun i H x H' y => by rw [y.1]; exact Same.refl _) (fun i x H H' hi s y s' Q R q => ?_) (fun H s e => hd H s ?_)
  · obtain ⟨rfl, c, hc, rfl⟩ := y
    have hc' : l[i]? = some c := by simpa using hc
    have e : l.getD i 0 = c := by rw [List.getD, hc']; rfl
    refine ⟨hw _, he c _ (List.mem_of_getElem? hc') s' Q R fun H4 s4 => ?_⟩
    have := q H4 s4
    rw [e] at this
    exact this
  · rw [hsz, rangeMapN] at e
    exact e
/-- [F x for x in a list that stands still] -/
theorem lc_lstM {α : Type} [Inhabited α] {f : α → V} {xs : List α} {a : Addr} {j : Nat} (F : α → V) (hD : H1 D = none) (hn : xs.length ≤ 100000) (hl : SqL K H1 a (xs.map f)) (hw : ∀ x, wipe ((wipe σ vs).set j (some x)) vs = wipe σ vs)
    (he : ∀ c H', c ∈ xs → Same H1 H' → ∀ (Q : VK) (R : Hp → Prop), (∀ H4, Same H' H4 → Q (F c) H4) → tt ((wipe σ vs).set j (some (f c))) H' fun b H3 => if b = true then te ((wipe σ vs).set j (some (f c))) H3 Q else R H3)
    (hd : ∀ H, Same H1 H → H D = some (.lst (xs.map F)) → Qd H) : CompOk (Itl K a) (gName j) tt te vs σ H1 D Qd := by
  have hsz : (xs.map f).length = xs.length := by simp
  refine lc_pure (walk_list (K := K) (a := a) (xs := xs.map f)) (fun i => F (xs.getD i default)) hD (by rw [hsz]; exact hn) (fun H s => s.seq hl) (fun i H x H' y => by rw [y.1]; exact Same.refl _) (fun i x H H' hi s y s' Q R q => ?_) (fun H s e => hd H s ?_)
  · obtain ⟨rfl, hx⟩ := y
    rw [List.getElem?_map] at hx
    cases hc : xs[i]? with
    | none => rw [hc] at hx; cases hx
    | some c =>
      rw [hc] at hx
      have hx : f c = x := Option.some.inj hx
      subst hx
      have e : xs.getD i default = c := by rw [List.getD, hc]; rfl
      refine ⟨hw _, he c _ (List.mem_of_getElem? hc) s' Q R fun H4 s4 => ?_⟩
      have := q H4 s4
      rw [e] at this
      exact this
  · rw [hsz, rangeMapN] at e
    exact e
end
section
variable {K : PySem.W.Frag} {te : TE} {vs : List Nat} {σ : St} {H1 : Hp} {D : Addr} {Qd : Hp → Prop}
theorem lc_txtY {l : List Nat} {j : Nat} (F : Nat → V) (hD : H1 D = none) (hn : l.length ≤ 100000) (hw : ∀ x, wipe ((wipe σ vs).set j (some x)) vs = wipe σ vs)
    (he : ∀ c H', c ∈ l → Same H1 H' → ∀ Q : VK, (∀ H4, Same H' H4 → Q (F c) H4) → te ((wipe σ vs).set j (some (ch c))) H' Q)
    (hd : ∀ H, Same H1 H → H D = some (.lst (l.map F)) → Qd H) : CompOk (Its (St_ l)) (gName j) tYes te vs σ H1 D Qd :=
  lc_txt F hD hn hw (fun c H' hc s Q R q => by
    show (if true = true then te ((wipe σ vs).set j (some (ch c))) H' Q else R H')
    rw [if_pos rfl]
    exact he c H' hc s Q q) hd
theorem lc_lstY {α : Type} [Inhabited α] {f : α → V} {xs : List α} {a : Addr} {j : Nat} (F : α → V) (hD : H1 D = none) (hn : xs.length ≤ 100000) (hl : SqL K H1 a (xs.map f)) (hw : ∀ x, wipe ((wipe σ vs).set j (some x)) vs = wipe σ vs)
    (he : ∀ c H', c ∈ xs → Same H1 H' → ∀ Q : VK, (∀ H4, Same H' H4 → Q (F c) H4) → te ((wipe σ vs).set j (some (f c))) H' Q)
    (hd : ∀ H, Same H1 H → H D = some (.lst (xs.map F)) → Qd H) : CompOk (Itl K a) (gName j) tYes te vs σ H1 D Qd :=
  lc_lstM F hD hn hl hw (fun c H' hc s Q R q => by
    show (if true = true then te ((wipe σ vs).set j (some (f c))) H' Q else R H')
    rw [if_pos rfl]
    exact he c H' hc s Q q) hd
end
/-! ### joining ways -/
section
variable {te ta tb : TE} {t : TT} {i : Nat} {rest : TS} {D : Ends} {σ : St} {H : Hp} {v v1 v2 : V}
theorem sq_set (v : V) (h : ∀ Q : VK, Q v H → te σ H Q) (k : rest D (σ.set i (some v)) H) : tSeq (tAsg te (gName i)) rest D σ H := h _ k
theorem s_set (v : V) (h : ∀ Q : VK, Q v H → te σ H Q) (k : D.nx (σ.set i (some v)) H) : tAsg te (gName i) D σ H := h _ k
theorem val_if {c : Bool} (hc : ∀ Q : Bool → Hp → Prop, Q c H → t σ H Q) (h1 : c = true → ∀ Q : VK, Q v1 H → ta σ H Q) (h2 : c = false → ∀ Q : VK, Q v2 H → tb σ H Q) : ∀ Q : VK, Q (if c then v1 else v2) H → tIf t ta tb σ H Q := fun Q q => hc _ (by
  cases c with
  | true => exact h1 rfl Q q
  | false => exact h2 rfl Q q)
end
theorem join_rd {K : PySem.W.Frag} {p : Addr} {t : List Nat} {H : Hp} {Q : VK} (h : SqL K H p (t.map ch)) (hn : t.length ≤ 100000) (q : Q (S t) H) :
    ∃ a p', ∃ ys : List Str, V.str (Str.ofString "") = .str a ∧ [V.ref p] = [.ref p'] ∧ (SqL K H p' (ys.map V.str) ∨ SqT K H p' (ys.map V.str)) ∧ (ys.map (·.length)).sum + ys.length * a.length ≤ 16777216 ∧ Q (.str (Txt.join a ys)) H := by
  refine ⟨_, p, (t.map fun c => [c]).map St_, rfl, rfl, .inl (by rw [map_ch]; exact h), ?_, ?_⟩
  · rw [lit_e, sum_ch]; omega
  · rw [lit_e, join_ch]; exact q
theorem cutV_to (xs : List V) (k : Nat) : cutV xs none (some (k : Int)) = xs.take k := by
  unfold cutV
  rw [HT.sIx_nat, HT.sIx_none, List.drop_zero, Nat.sub_zero]
  by_cases h : k ≤ xs.length
  · rw [Nat.min_eq_left h]
  · rw [Nat.min_eq_right (by omega), List.take_length, List.take_of_length_le (by omega)]
theorem cutV_from (xs : List V) (k : Nat) : cutV xs (some (k : Int)) none = xs.drop k := by
  unfold cutV
  rw [HT.sIx_nat, HT.sIx_none]
  by_cases h : k ≤ xs.length
  · rw [Nat.min_eq_left h, List.take_of_length_le (by rw [List.length_drop]; omega)]
  · rw [Nat.min_eq_right (by omega), List.drop_length, List.drop_of_length_le (by omega), List.take_nil]
/-! ### tests of signs -/
theorem d_ch (a b : Nat) : decide (ch a = ch b) = decide (a = b) := by
  rw [decide_eq_decide, ch_inj]
theorem d_op (c : Nat) : decide (ch c = V.str (Str.ofString "(")) = decide (c = 40) := by rw [lit_op]; exact d_ch c 40
theorem d_cl (c : Nat) : decide (ch c = V.str (Str.ofString ")")) = decide (c = 41) := by rw [lit_cl]; exact d_ch c 41
theorem d_q (c : Nat) : decide (ch c = V.str (Str.ofString "?")) = decide (c = 63) := by rw [lit_q]; exact d_ch c 63
theorem d_int (a b : Int) : decide (V.int a = V.int b) = decide (a = b) := by
  rw [decide_eq_decide]
  exact ⟨V.int.inj, fun h => by rw [h]⟩
theorem d_S (a b : List Nat) : decide (S a = S b) = decide (a = b) := by rw [decide_eq_decide, S_inj]
end L2

set_option Elab.async false
set_option linter.all false
set_option maxRecDepth 100000
set_option maxHeartbeats 4000000
/-! Calls of a name that holds one of several defs; suites. -/
namespace L2
open PySem PySem.Spec PyProof.Rows
/-- what a def at f promises, for several f -/
def HeldX (P : Program) (w : World) (K : PySem.W.Frag) (mg : Str → Option Value) (base : Heap) (CX : CXT) (k : Nat) (f : Addr) (sp : Sp) : Prop :=
  ∃ (fd : FuncData) (ps : List Str), FnOk P w K mg base CX k f fd ps sp ∧ PySem.W.keepIn K (.ref f) = true ∧ Binds K fd ps []
def tCallX (i : Nat) (S : Addr → Sp → Prop) (E : St → XK) (t : TA) : TE := fun σ H Q => ∃ f sp, σ[i]? = some (some (.ref f)) ∧ S f sp ∧ t σ H fun vs H1 => sp vs H1 Q (E σ)
section
variable {X : Cx} {CX : CXT} {k i : Nat} {E : St → XK} {x : Str} {p pos : Pos} {e : Expr} {es : List Expr} {t : TA} {S : Addr → Sp → Prop}
theorem pe_callX (A : ∀ f sp, S f sp → HeldX X.prog X.w X.K X.mg X.base CX k f sp) (hr : Room k X.A) (hN : X.N[i]? = some x) (hv : Vis X.env.scope x) (hx : ∀ σ, PassesAt CX X σ (E σ)) (ha : PA X (e :: es) t)
    (hdb : (x == ("__debug__" : Str)) = false := by decide) (hcd : (x == ("__classdict__" : Str)) = false := by decide)
    (he : starEach (e :: es) X.env = (false, eval e X.env) :: starEach es X.env := by rfl) (hpl : (backTo pos (starEach es X.env)).any (·.1) = false := by rfl) : PE X (.Call (.Name x p) (e :: es) [] pos) (tCallX i S E t) := by
  refine ⟨fun pins s σ H Q I h => ?_⟩
  obtain ⟨f, sp, hs, hS, ht⟩ := h
  obtain ⟨fd, ps, F, hk, hb⟩ := A f sp hS
  refine wpAny_Call_Name_kw (thn ((pe_var (pos := p) hN hv hdb hcd).run pins s σ H (fun v H1 => v = .ref f ∧ H1 = H) I ⟨.ref f, hs, rfl, rfl⟩) fun u s1 ⟨v, H1, I1, r1, q1⟩ => ?_)
  obtain ⟨rfl, rfl⟩ := q1
  cases r1
  refine PySem.W.callWith_K (h₀ := X.base) I.ok.mod.kin hk (thn (ha.run pos pins s1 σ _ _ I1 ht) fun us s2 ⟨vs, H2, I2, r, q⟩ => ⟨I2.kIn, ?_⟩) he hpl
  exact run_fnS F hr hb (hx σ) I2 r q
end
theorem pss_if {X : Cx} {st : List Stmt} {t : TS} {p : Prop} (h : p → PSs X st t) : PSs X st (fun D σ H => p ∧ t D σ H) := ⟨fun pins s σ H D I hw => (h hw.1).run pins s σ H D I hw.2⟩
end L2
namespace L2
open PySem PySem.Spec PyProof.Rows L2H HotX
section
variable {prog : Program} {w : World} {A : Around} {E : Value → Shared → Prop} {s : Shared}
theorem pyNext_list_end_hot {it l x1 : Addr} {i : Nat} {items : Array Value} {Q : Option Value → Shared → Prop} (hot : HotAt A x1 s.heap)
    (hit : s.heap.IsListIter it l i) (hl : s.heap.IsList l items) (hx : items[i]? = none) (hne : x1 ≠ it)
    (hQ : ∀ h', Heap.ExtBut it s.heap h' → Q none { s with heap := h' }) : wpAny (model prog w) A (pyNext (.ref it)) Q E s := by
  obtain ⟨o, ho, hc, hd⟩ := id hit
  obtain ⟨ol, hol, _, nl, hdl⟩ := hl
  obtain ⟨hh, o1, vs1, h1, d1, c1⟩ := hot
  unfold pyNext
  refine wpAny_bind (wpAny_attempt (wpAny_callSpecial?_slot (name := Str.ofString "__next__") hit.typeIs slot_listiter_next
    (wpAny_call_entry slot_listiter_next hit.typeIs entry_listiter_next ?_ (args_listiter_next _))))
  show wpAny _ _ (field (.ref it) 0 >>= _) _ _ s
  refine wpAny_bind (wpAny_field ho hd (x := .ref l) rfl ?_)
  show wpAny _ _ (if (Value.ref l == Value.none) = true then _ else _) _ _ s
  rw [if_neg (show ¬ ((Value.ref l == Value.none) = true) from Bool.false_ne_true)]
  show wpAny _ _ (field (.ref it) 1 >>= _) _ _ s
  refine wpAny_bind (wpAny_field ho hd (x := .int i 0) rfl ?_)
  show wpAny _ _ (seqItems? (.ref l) >>= _) _ _ s
  refine wpAny_bind (wpAny_seqItems hol hdl ?_)
  simp only [Int.toNat_natCast, hx]
  refine wpAny_bind (wpAny_rule (wpAny_bind (wpAny_setField ho hd (by simp) ?_)))
  show wpAny _ _ (newExc (.type "StopIteration") [] >>= _) _ _ _
  refine wpAny_bind ?_
  simp only [newExc, newTuple]
  refine wpAny_bind (wpAny_newObj_type ?_ (by size_fits))
  refine wpAny_bind (m := firstArgMember _ _) (wpAny_of_eq (a := Value.none) (by first | rfl | (simp only [firstArgMember]; rfl)) ?_)
  refine wpAny_newObj_type ?_ (by size_fits)
  have ex : Heap.ExtBut it s.heap (s.heap.update it (Obj.mapFields (·.setIfInBounds 0 .none))) := (Heap.SameBut.update ..).extBut
  have g1 := ex x1 o1 hne h1
  refine raiseNew_hot ⟨hh, o1, vs1, Heap.get?_push_of_some _ (Heap.get?_push_of_some _ g1), d1, c1⟩ (Nat.ne_of_lt (Heap.lt_size (Heap.get?_push_of_some _ g1))) (Heap.get?_push_size _ rfl) rfl (by first | (simp; done) | (simp; omega) | (simp only [Array.size_append]; simp; omega)) ?_
  refine wpAny_bind (wpAny_isInstance (T := "StopIteration") (b := true) ⟨_, Heap.get?_update_self _ (Heap.get?_push_size _ rfl) rfl, rfl⟩ isSubtype_stop ?_)
  refine wpAny_pure (hQ _ fun b o hb e => ?_)
  have e2 := Heap.get?_push_of_some { cls := .type "tuple", data := .seq #[] } (ex b o hb e)
  rw [Heap.get?_update_other _ _ (Nat.ne_of_gt (Heap.lt_size e2))]
  exact Heap.get?_push_of_some _ e2
end
theorem Walks.listHot {prog : Program} {w : World} {A : Around} {x1 : Addr} (hh : A.handled = some (.ref x1)) (I ax : Addr) (hne : ax ≠ I) (hx : x1 ≠ I) (items : Array Value) :
    Walks prog w A I [I, ax, x1] [I] items.size (fun i v => items[i]? = some v) (fun i h => (h.IsListIter I ax i ∧ h.IsList ax items) ∧ HotAt A x1 h) where
  sub := fun b hb => by simp at hb; simp [hb]
  frame := fun _ _ _ st hk => ⟨⟨st.1.1.at fun o e => hk I (by simp) o e, st.1.2.at fun o e => hk ax (by simp) o e⟩, let ⟨a, o, vs, b, c, d⟩ := st.2; ⟨a, o, vs, hk x1 (by simp) o b, c, d⟩⟩
  item := fun i s Q E hi st hQ => by
    refine wpAny_pyNext_list_item st.1.1 st.1.2 (x := items[i]) (by simp [hi]) fun h' hit' hs' => ?_
    obtain ⟨a, o, vs, b, c, d⟩ := st.2
    exact hQ _ h' s.toks (by simp [hi]) ⟨⟨hit', st.1.2.extBut hs'.extBut hne⟩, a, o, vs, hs'.extBut x1 o hx b, c, d⟩ fun b o hb e => hs'.extBut b o (fun h => hb (by simp [h])) e
  done := fun s Q E st hQ => pyNext_list_end_hot st.2 st.1.1 st.1.2 (by simp) hx fun h' he' => hQ h' s.toks fun b o hb e => he' b o (fun h => hb (by simp [h])) e
  self := fun _ _ _ _ st hQ => wpAny_pyIter_listiter st.1.1 hQ
theorem cr_anyH {X : Cx} (hc : HotC X) : CallR X (.builtin "any") (rAny X.K) := by
  intro pins s σ H vs us Q I r h
  obtain ⟨a, bs, rfl, hs, q⟩ := h
  obtain ⟨its, rv, hl, _⟩ := I.list hs
  rw [Vals.ref1 r]
  have hb := rv.bls
  obtain ⟨x1, hot⟩ := hc.at I
  have hx1 : x1 < s.heap.objs.size := by obtain ⟨_, o, _, e, _⟩ := hot; exact Heap.lt_size e
  refine call_any_walk (iter_any hl.isList fun s₂ e2 st hne => ?_)
  subst e2
  refine ⟨_, _, _, _, _, _, _, rfl, Walks.listHot (A := X.A.in1) (x1 := x1) hot.1 _ a hne (Nat.ne_of_lt hx1) its.toArray, ⟨st, hot.1, let ⟨o, vs, b, c, d⟩ := hot.2; ⟨o, vs, Heap.get?_push_of_some _ b, c, d⟩⟩, truth_bools hb, fun h' tk hk => ?_⟩
  refine ⟨.bl _, H, I.kept fun b o eo => hk b o (fun hmem => ?_) (Heap.get?_push_of_some _ eo), ?_, q⟩
  · rcases List.mem_cons.mp hmem with e1 | hmem
    · exact absurd (e1 ▸ Heap.lt_size eo) (Nat.lt_irrefl _)
    · cases hmem
  · show Value.bool _ = Value.bool _
    rw [← any_range, hb, List.size_toArray, List.length_map]
end L2
namespace L2
open PySem PySem.Spec PyProof.Rows
theorem hot_suite {X : Cx} {a : Addr} {oe : Obj} {cls : Value} {d : Option Addr} {pn : List (Addr × Obj)} (hz : L2N.Zn cls d oe) (hf : ∃ vs, oe.data = .fields vs) : L2H.HotC (X.suite a ((a, oe) :: pn)) := by
  obtain ⟨vs, hv⟩ := hf
  exact ⟨(a, oe), ⟨rfl, vs, hv, hz.2.2 vs hv⟩, List.mem_cons_self ..⟩
end L2

set_option Elab.async false
set_option linter.all false
set_option maxRecDepth 100000
set_option maxHeartbeats 4000000
/-! More readings. -/
namespace L2
open PySem PySem.Spec PyProof.Rows
section
variable {X : Cx}
/-- a statement, then the rest, with a word between them -/
def tCut2 (t u : TS) : TS := fun D σ H => ∃ Mid : St → Hp → Prop, t { D with nx := Mid } σ H ∧ ∀ σ' H', Mid σ' H' → u D σ' H'
theorem pss_cut2 {st : Stmt} {rest : List Stmt} {t u : TS} (h1 : PS X st t) (h2 : PSs X rest u) : PSs X (st :: rest) (tCut2 t u) := by
  refine ⟨fun pins s σ H D I h => ?_⟩
  obtain ⟨Mid, hm, hu⟩ := h
  refine wpAny_execs_cons (thn (h1.run pins s σ H { D with nx := Mid } I hm) fun f s1 q => ?_)
  cases f with
  | next =>
    obtain ⟨σ', H', I', q⟩ := q
    exact h2.run pins s1 σ' H' D I' (hu σ' H' q)
  | ret v => exact q
  | brk => exact q
  | cont => exact q
end
section
variable {te : TE} {i : Nat} {rest : TS} {D : Ends} {σ : St} {H : Hp} {Q : VK} {t tr : TA} {v : V} {Qa : List V → Hp → Prop}
theorem sq_asg (h : te σ H fun x H1 => rest D (σ.set i (some x)) H1) : tSeq (tAsg te (gName i)) rest D σ H := h
theorem lst_in (h : t σ H fun xs H1 => xs.length ≤ sizeLine ∧ ∀ p, H1 p = none → Q (.ref p) (upd H1 p (.lst xs))) : tLst t σ H Q := h
theorem tup_in (h : t σ H fun xs H1 => xs.length ≤ sizeLine ∧ ∀ p, H1 p = none → Q (.ref p) (upd H1 p (.tup xs))) : tTup t σ H Q := h
theorem cons_val (v : V) (h : ∀ Q : VK, Q v H → te σ H Q) (k : tr σ H fun xs H2 => Qa (v :: xs) H2) : tCons te tr σ H Qa := h _ k
theorem nx_in {t : TS} (h : t D σ H) : tSeq Ends.nx t D σ H := h
theorem nil_val (k : Qa [] H) : tNil σ H Qa := k
end
/-! ### a written dict of brackets -/
theorem ne_oc : (Sum.inr (Str.ofString "(") : Key) ≠ Sum.inr (Str.ofString ")") := by
  intro h
  have h := Sum.inr.inj h
  rw [lit_op, lit_cl] at h
  exact absurd h (by decide)
theorem oc_val {va vb : V} {c : Nat} : valV (mergeK [] [((Sum.inr (Str.ofString "(") : Key), va), (Sum.inr (Str.ofString ")"), vb)]) (Sum.inr ⟨#[c]⟩ : Key) = if c = 40 then some va else if c = 41 then some vb else none := by
  show valV (putK (putK [] (Sum.inr (Str.ofString "(") : Key) va) (Sum.inr (Str.ofString ")") : Key) vb) (Sum.inr ⟨#[c]⟩ : Key) = _
  rw [valV_put, valV_put, valV_nil, lit_op, lit_cl]
  have e : ∀ a b : Nat, ((Sum.inr (⟨#[a]⟩ : Str) : Key) = Sum.inr ⟨#[b]⟩) = (a = b) := fun a b => propext ⟨fun h => by
    have := Sum.inr.inj h
    simpa using this, fun h => by rw [h]⟩
  show (if (Sum.inr (⟨#[c]⟩ : Str) : Key) = Sum.inr ⟨#[41]⟩ then some vb else if (Sum.inr (⟨#[c]⟩ : Str) : Key) = Sum.inr ⟨#[40]⟩ then some va else none) = _
  by_cases h1 : c = 40
  · subst h1
    rw [if_neg (by rw [e]; decide), if_pos rfl, if_pos rfl]
  · by_cases h2 : c = 41
    · subst h2
      rw [if_pos rfl, if_neg h1, if_pos rfl]
    · rw [if_neg (by rw [e]; exact h2), if_neg (by rw [e]; exact h1), if_neg h1, if_neg h2]
section
variable {σ : St} {H : Hp} {Q : VK} {ta tb ty tx : TE} {va vb z : V} {c : Nat}
abbrev tOC (ta tb : TE) : TE := tDisp [(tC (.str (Str.ofString "(")), ta), (tC (.str (Str.ofString ")")), tb)]
theorem rd_oc0 (h1 : ∀ H Q, Q va H → ta σ H Q) (h2 : ∀ H Q, Q vb H → tb σ H Q)
    (q : ∀ p H', Same H H' → H p = none → H' p = some (.dK (mergeK [] [((Sum.inr (Str.ofString "(") : Key), va), (Sum.inr (Str.ofString ")"), vb)])) → Q (.ref p) H') : tOC ta tb σ H Q := by
  refine fun p np => h1 _ _ (h2 _ _ ⟨upd_same, [((Sum.inr (Str.ofString "(") : Key), va), (Sum.inr (Str.ofString ")"), vb)], rfl, by show 2 ≤ 15; decide, ?_⟩)
  refine q p _ ?_ np upd_same
  exact (Same.new np).mut np
/-- {'(': a, ')': b}[sign] -/
theorem rd_oc (h1 : ∀ H Q, Q va H → ta σ H Q) (h2 : ∀ H Q, Q vb H → tb σ H Q) (hy : ∀ H Q, Q (ch c) H → ty σ H Q) (hc : c = 40 ∨ c = 41)
    (q : ∀ H', Same H H' → Q (if c = 40 then va else vb) H') : tDGet (tOC ta tb) ty σ H Q := by
  refine rd_oc0 (Q := fun x H1 => ty σ H1 fun y H2 => ∃ a v, x = .ref a ∧ DGet H2 a y (some v) ∧ Q v H2) h1 h2 fun p H' sm np hp => hy _ _ ⟨p, _, rfl, ?_, q H' sm⟩
  have e := DGet.k (k := Sum.inr ⟨#[c]⟩) hp
  rw [oc_val] at e
  rcases hc with h | h
  · subst h; exact e
  · subst h; exact e
/-- {'(': a, ')': b}.get(sign, z) -/
theorem rd_oc2 (h1 : ∀ H Q, Q va H → ta σ H Q) (h2 : ∀ H Q, Q vb H → tb σ H Q) (hy : ∀ H Q, Q (ch c) H → ty σ H Q) (hx : ∀ H' Q, Same H H' → Q z H' → tx σ H' Q)
    (q : ∀ H', Same H H' → Q (if c = 40 then va else if c = 41 then vb else z) H') : tDGet2 (tOC ta tb) ty tx σ H Q := by
  refine rd_oc0 (Q := fun x H1 => ∃ a, x = .ref a ∧ IsD H1 a ∧ ty σ H1 fun y H2 => tx σ H2 fun z H3 => ∃ o, DGet H3 a y o ∧ Q (o.getD z) H3) h1 h2 fun p H' sm np hp => ⟨p, rfl, .inl ⟨_, .inl hp⟩, hy _ _ (hx _ _ sm ⟨_, DGet.k (k := Sum.inr ⟨#[c]⟩) hp, ?_⟩)⟩
  rw [oc_val]
  have := q H' sm
  by_cases h1 : c = 40
  · rw [if_pos h1] at this ⊢; exact this
  · by_cases h2 : c = 41
    · rw [if_neg h1, if_pos h2] at this ⊢; exact this
    · rw [if_neg h1, if_neg h2] at this ⊢; exact this
end
/-! ### lists of ints as data -/
theorem eqvAll_ints : ∀ a b : List Int, PyData.eqvAll (a.map PyData.int) (b.map PyData.int) = decide (a = b)
  | [], [] => rfl
  | [], _ :: _ => rfl
  | _ :: _, [] => rfl
  | x :: a, y :: b => by
    show (PyData.eqv (.int x) (.int y) && PyData.eqvAll (a.map PyData.int) (b.map PyData.int)) = _
    rw [eqvAll_ints a b]
    show ((x == y) && _) = _
    by_cases h : x = y
    · subst h; simp
    · simp [h]
theorem canLay_ints : ∀ a : List Int, PyData.canLayAll0 (a.map PyData.int) = true
  | [] => rfl
  | x :: a => by
    show (PyData.canLay0 (.int x) && PyData.canLayAll0 (a.map PyData.int)) = true
    rw [canLay_ints a]; rfl
theorem depth_ints : ∀ a : List Int, PyData.depthAll (a.map PyData.int) = 0
  | [] => rfl
  | x :: a => by
    show max (PyData.depth (.int x)) (PyData.depthAll (a.map PyData.int)) = 0
    rw [depth_ints a]; rfl
theorem shaped_ints (a : List Int) : SeqAt.shaped (.list (a.map PyData.int)) = true := by
  unfold SeqAt.shaped
  have h1 : PyData.canLay0 (.list (a.map PyData.int)) = true := canLay_ints a
  have h2 : PyData.depth (.list (a.map PyData.int)) = 1 := by
    show PyData.depthAll (a.map PyData.int) + 1 = 1
    rw [depth_ints]
  rw [h1, h2]; rfl
theorem dp_ints {K : PySem.W.Frag} {H : Hp} : ∀ a : List Int, DpAll K H (a.map V.int) (a.map PyData.int)
  | [] => .nil
  | x :: a => .cons (.int x) (dp_ints a)
theorem rd_neL {K : PySem.W.Frag} {H : Hp} {Q : VK} {p q : Addr} {a b : List Int} (h1 : SqL K H p (a.map V.int)) (h2 : SqL K H q (b.map V.int)) (k : Q (.bl (!decide (a = b))) H) : rNeD K (.ref p) (.ref q) H Q := by
  refine ⟨_, _, .lst h1 (dp_ints a), .lst h2 (dp_ints b), shaped_ints a, shaped_ints b, ?_⟩
  have e : PyData.eqv (.list (a.map PyData.int)) (.list (b.map PyData.int)) = decide (a = b) := by
    rw [PyData.eqv]; exact eqvAll_ints a b
  rw [e]
  exact k
/-! ### isinstance of plain things -/
theorem isi_int {K : PySem.W.Frag} {H : Hp} {Q : VK} {i : Int} {n : String} {b : Bool} (hk : kitB "int" n = some b) (q : Q (.bl b) H) : rIsi K [.int i, .ty n] H Q := ⟨_, _, _, _, b, rfl, .ty n, .base (.int i), kit_ty hk, q⟩
theorem isi_bl {K : PySem.W.Frag} {H : Hp} {Q : VK} {i : Bool} {n : String} {b : Bool} (hk : kitB "bool" n = some b) (q : Q (.bl b) H) : rIsi K [.bl i, .ty n] H Q := ⟨_, _, _, _, b, rfl, .ty n, .base (.bl i), kit_ty hk, q⟩
theorem isi_str {K : PySem.W.Frag} {H : Hp} {Q : VK} {i : Str} {n : String} {b : Bool} (hk : kitB "str" n = some b) (q : Q (.bl b) H) : rIsi K [.str i, .ty n] H Q := ⟨_, _, _, _, b, rfl, .ty n, .base (.str i), kit_ty hk, q⟩
theorem isi_lst {K : PySem.W.Frag} {H : Hp} {Q : VK} {p : Addr} {xs : List V} {n : String} {b : Bool} (h : H p = some (.lst xs)) (hk : kitB "list" n = some b) (q : Q (.bl b) H) : rIsi K [.ref p, .ty n] H Q := ⟨_, _, _, _, b, rfl, .ty n, .base (.lst h), kit_ty hk, q⟩
end L2

set_option linter.all false
/-! The mathematics of rows: codes 40 ( 41 ) 63 ?. -/
namespace BR
def dst (d : Int) (c : Nat) : Int := if c = 40 then d + 1 else d - 1
def fin (d : Int) (l : List Nat) : Int := l.foldl dst d
def dpi (d : Int) : List Nat → List Int
  | [] => []
  | c :: r => d :: dpi (dst d c) r
/-- how many are open at each place, and at the end -/
def dps (d : Int) (l : List Nat) : List Int := dpi d l ++ [fin d l]
theorem fin_nil (d : Int) : fin d [] = d := rfl
theorem fin_cons (d : Int) (c : Nat) (r : List Nat) : fin d (c :: r) = fin (dst d c) r := rfl
theorem fin_app (d : Int) (a b : List Nat) : fin d (a ++ b) = fin (fin d a) b := by
  unfold fin; rw [List.foldl_append]
theorem fin_snoc (d : Int) (a : List Nat) (c : Nat) : fin d (a ++ [c]) = dst (fin d a) c := by rw [fin_app]; rfl
theorem dpi_app : ∀ (d : Int) (a b : List Nat), dpi d (a ++ b) = dpi d a ++ dpi (fin d a) b
  | _, [], _ => rfl
  | d, c :: r, b => by
    show d :: dpi (dst d c) (r ++ b) = d :: (dpi (dst d c) r ++ dpi (fin d (c :: r)) b)
    rw [dpi_app]; rfl
theorem dpi_snoc (d : Int) (a : List Nat) (c : Nat) : dpi d (a ++ [c]) = dps d a := by rw [dpi_app]; rfl
theorem dps_snoc (d : Int) (a : List Nat) (c : Nat) : dps d (a ++ [c]) = dps d a ++ [dst (fin d a) c] := by
  unfold dps
  rw [dpi_snoc, fin_snoc]; rfl
theorem dpi_len : ∀ (d : Int) (l : List Nat), (dpi d l).length = l.length
  | _, [] => rfl
  | d, c :: r => by show (dpi (dst d c) r).length + 1 = r.length + 1; rw [dpi_len]
theorem dps_len (d : Int) (l : List Nat) : (dps d l).length = l.length + 1 := by unfold dps; rw [List.length_append, dpi_len]; rfl
/-- the depth behind the first i signs -/
theorem dps_get (d : Int) (l : List Nat) (i : Nat) (h : i ≤ l.length) : (dps d l)[i]? = some (fin d (l.take i)) := by
  by_cases hi : i < l.length
  · have e : l = l.take i ++ l[i] :: l.drop (i + 1) := by rw [← List.drop_eq_getElem_cons hi, List.take_append_drop]
    have h2 : dps d l = dpi d (l.take i) ++ (fin d (l.take i) :: (dpi (dst (fin d (l.take i)) l[i]) (l.drop (i + 1)) ++ [fin d l])) := by
      conv => lhs; unfold dps; rw [e, dpi_app]
      show (_ ++ (_ :: _)) ++ _ = _
      rw [List.append_assoc, ← e]; rfl
    have h3 : (dpi d (l.take i)).length = i := by rw [dpi_len, List.length_take]; omega
    rw [h2, List.getElem?_append_right (by omega), h3, Nat.sub_self]; rfl
  · have e : i = l.length := by omega
    subst e
    unfold dps
    rw [List.getElem?_append_right (by rw [dpi_len]; exact Nat.le_refl _), dpi_len, Nat.sub_self, List.take_length]; rfl
/-- the run of a row: how many are open at the end, none where too many close or a sign is no bracket -/
def run : Nat → List Nat → Option Nat
  | d, [] => some d
  | d, c :: r => if c = 40 then run (d + 1) r else if c = 41 then (match d with | 0 => none | k + 1 => run k r) else none
theorem run_op (d : Nat) (r : List Nat) : run d (40 :: r) = run (d + 1) r := rfl
theorem run_cl0 (r : List Nat) : run 0 (41 :: r) = none := rfl
theorem run_cl (k : Nat) (r : List Nat) : run (k + 1) (41 :: r) = run k r := rfl
theorem run_no {c : Nat} (h1 : c ≠ 40) (h2 : c ≠ 41) (d : Nat) (r : List Nat) : run d (c :: r) = none := by
  show (if c = 40 then _ else if c = 41 then _ else none) = none
  rw [if_neg h1, if_neg h2]
theorem run_app : ∀ (a : List Nat) (d : Nat) (b : List Nat), run d (a ++ b) = (run d a).bind fun e => run e b
  | [], _, _ => rfl
  | c :: r, d, b => by
    by_cases h : c = 40
    · subst h
      rw [List.cons_append, run_op, run_op, run_app]
    · by_cases h2 : c = 41
      · subst h2
        cases d with
        | zero => rfl
        | succ k =>
          rw [List.cons_append, run_cl, run_cl, run_app]
      · rw [List.cons_append, run_no h h2, run_no h h2]; rfl
theorem run_add : ∀ (l : List Nat) (d e k : Nat), run d l = some e → run (d + k) l = some (e + k)
  | [], d, e, k, h => by
    have : d = e := Option.some.inj h
    rw [this]; rfl
  | c :: r, d, e, k, h => by
    unfold run at h ⊢
    by_cases h1 : c = 40
    · rw [if_pos h1] at h ⊢
      have := run_add r (d + 1) e k h
      rw [show d + k + 1 = d + 1 + k by omega]
      exact this
    · rw [if_neg h1] at h ⊢
      by_cases h2 : c = 41
      · rw [if_pos h2] at h ⊢
        cases d with
        | zero => cases h
        | succ j =>
          have := run_add r j e k h
          rw [show j + 1 + k = (j + k) + 1 by omega]
          exact this
      · rw [if_neg h2] at h; cases h
/-- signs that are brackets -/
def Br (l : List Nat) : Prop := ∀ c ∈ l, c = 40 ∨ c = 41
/-- a row: brackets and rubbed signs -/
def IsRow (l : List Nat) : Prop := ∀ c ∈ l, c = 40 ∨ c = 41 ∨ c = 63
def isClosed (l : List Nat) : Bool := decide (63 ∉ l) && ((dps 0 l).all (fun d => decide (0 ≤ d)) && decide (fin 0 l = 0))
theorem Br.row {l : List Nat} (h : Br l) : IsRow l := fun c hc => (h c hc).elim .inl fun e => .inr (.inl e)
theorem run_br : ∀ (l : List Nat) (d e : Nat), run d l = some e → Br l
  | [], _, _, _, c, hc => by cases hc
  | x :: r, d, e, h, c, hc => by
    unfold run at h
    by_cases h1 : x = 40
    · rw [if_pos h1] at h
      rcases List.mem_cons.mp hc with q | q
      · exact .inl (q.trans h1)
      · exact run_br r _ _ h c q
    · rw [if_neg h1] at h
      by_cases h2 : x = 41
      · rw [if_pos h2] at h
        rcases List.mem_cons.mp hc with q | q
        · exact .inr (q.trans h2)
        · cases d with
          | zero => cases h
          | succ j => exact run_br r _ _ h c q
      · rw [if_neg h2] at h; cases h
theorem run_fin : ∀ (l : List Nat) (d e : Nat), run d l = some e → fin d l = e
  | [], d, e, h => by
    have : d = e := Option.some.inj h
    rw [this]; rfl
  | c :: r, d, e, h => by
    unfold run at h
    rw [fin_cons]
    by_cases h1 : c = 40
    · rw [if_pos h1] at h
      have := run_fin r _ _ h
      unfold dst
      rw [if_pos h1]
      exact this
    · rw [if_neg h1] at h
      by_cases h2 : c = 41
      · rw [if_pos h2] at h
        cases d with
        | zero => cases h
        | succ j =>
          have := run_fin r _ _ h
          unfold dst
          rw [if_neg h1]
          have e : ((j + 1 : Nat) : Int) - 1 = j := by omega
          rw [e]; exact this
      · rw [if_neg h2] at h; cases h
/-- a run that goes through: brackets, no depth below nought -/
theorem run_iff (l : List Nat) : ∀ (d : Nat), Br l → ((∀ x ∈ dps d l, 0 ≤ x) ↔ ∃ e, run d l = some e) := by
  induction l with
  | nil =>
    intro d _
    constructor
    · intro _; exact ⟨d, rfl⟩
    · intro _ x hx
      have : x = (d : Int) := by simpa [dps, dpi, fin] using hx
      omega
  | cons c r ih =>
    intro d hb
    have hb' : Br r := fun x hx => hb x (List.mem_cons_of_mem _ hx)
    have hdp : dps d (c :: r) = (d : Int) :: dps (dst d c) r := rfl
    rw [hdp]
    rcases hb c (List.mem_cons_self ..) with h | h
    · subst h
      have e1 : dst (d : Int) 40 = ((d + 1 : Nat) : Int) := by unfold dst; rw [if_pos rfl]; omega
      have e2 : run d (40 :: r) = run (d + 1) r := rfl
      rw [e1, e2, ← ih (d + 1) hb']
      constructor
      · intro h x hx; exact h x (List.mem_cons_of_mem _ hx)
      · intro h x hx
        rcases List.mem_cons.mp hx with q | q
        · omega
        · exact h x q
    · subst h
      cases d with
      | zero =>
        have e2 : run 0 (41 :: r) = none := rfl
        rw [e2]
        constructor
        · intro h
          have hm : dst ((0 : Nat) : Int) 41 ∈ dps (dst ((0 : Nat) : Int) 41) r := by
            cases r with
            | nil => simp [dps, dpi, fin]
            | cons y s => simp [dps, dpi]
          have := h _ (List.mem_cons_of_mem _ hm)
          have e : dst ((0 : Nat) : Int) 41 = -1 := by decide
          rw [e] at this
          omega
        · rintro ⟨e, h⟩; cases h
      | succ j =>
        have e1 : dst ((j + 1 : Nat) : Int) 41 = (j : Int) := by unfold dst; rw [if_neg (by decide)]; omega
        have e2 : run (j + 1) (41 :: r) = run j r := rfl
        rw [e1, e2, ← ih j hb']
        constructor
        · intro h x hx; exact h x (List.mem_cons_of_mem _ hx)
        · intro h x hx
          rcases List.mem_cons.mp hx with q | q
          · omega
          · exact h x q
theorem isClosed_iff (l : List Nat) (hr : IsRow l) : isClosed l = true ↔ run 0 l = some 0 := by
  unfold isClosed
  rw [Bool.and_eq_true, Bool.and_eq_true, decide_eq_true_eq, decide_eq_true_eq, List.all_eq_true]
  constructor
  · rintro ⟨h1, h2, h3⟩
    have hb : Br l := fun c hc => by
      rcases hr c hc with q | q | q
      · exact .inl q
      · exact .inr q
      · subst q; exact absurd hc h1
    obtain ⟨e, he⟩ := (run_iff l 0 hb).mp fun x hx => of_decide_eq_true (h2 x hx)
    have := run_fin l 0 e he
    have e0 : (e : Int) = 0 := this.symm.trans h3
    have : e = 0 := by omega
    rw [he, this]
  · intro h
    have hb := run_br l 0 0 h
    refine ⟨fun hm => ?_, fun x hx => decide_eq_true ((run_iff l 0 hb).mpr ⟨0, h⟩ x hx), run_fin l 0 0 h⟩
    rcases hb 63 hm with q | q <;> cases q
end BR

set_option linter.all false
namespace BR
theorem fin_add : ∀ (l : List Nat) (d : Int), fin d l = d + fin 0 l
  | [], d => by show d = d + 0; omega
  | c :: r, d => by
    rw [fin_cons, fin_cons, fin_add r (dst d c), fin_add r (dst 0 c)]
    unfold dst
    split <;> omega
theorem fin_three (a b : List Nat) (c : Nat) : fin 0 (a ++ [c] ++ b) = fin 0 a + dst 0 c + fin 0 b := by
  rw [fin_app, fin_app, fin_add b, fin_add [c]]
  rfl
theorem run_even : ∀ (l : List Nat) (d e : Nat), run d l = some e → (d + l.length + e) % 2 = 0
  | [], d, e, h => by
    have : d = e := Option.some.inj h
    subst this
    simp; omega
  | c :: r, d, e, h => by
    by_cases h1 : c = 40
    · subst h1
      have := run_even r _ _ h
      simp only [List.length_cons]; omega
    · by_cases h2 : c = 41
      · subst h2
        cases d with
        | zero => cases h
        | succ k =>
          have := run_even r _ _ h
          simp only [List.length_cons]; omega
      · rw [run_no h1 h2] at h; cases h
theorem notClosed {l : List Nat} (hr : IsRow l) (h : run 0 l ≠ some 0) : isClosed l = false := by
  cases e : isClosed l with
  | false => rfl
  | true => exact absurd ((isClosed_iff l hr).mp e) h
theorem IsRow.append {a b : List Nat} (ha : IsRow a) (hb : IsRow b) : IsRow (a ++ b) := fun c hc => (List.mem_append.mp hc).elim (ha c) (hb c)
theorem IsRow.take {a : List Nat} (ha : IsRow a) (n : Nat) : IsRow (a.take n) := fun c hc => ha c (List.mem_of_mem_take hc)
theorem IsRow.drop {a : List Nat} (ha : IsRow a) (n : Nat) : IsRow (a.drop n) := fun c hc => ha c (List.mem_of_mem_drop hc)
theorem IsRow.one {c : Nat} (h : c = 40 ∨ c = 41 ∨ c = 63) : IsRow [c] := fun x hx => by
  have : x = c := by simpa using hx
  rw [this]; exact h
/-- one sign turned -/
theorem not_turned {l : List Nat} (h : run 0 l = some 0) {n c : Nat} (hc : l[n]? = some c) : isClosed (l.take n ++ [if c = 40 then 41 else 40] ++ l.drop (n + 1)) = false := by
  have hr := (run_br l 0 0 h).row
  refine notClosed (((hr.take n).append (.one (by split <;> simp))).append (hr.drop _)) fun q => ?_
  have e1 : fin 0 _ = 0 := run_fin _ 0 0 q
  have e2 : fin 0 _ = 0 := run_fin _ 0 0 h
  have hn := (List.getElem?_eq_some_iff.mp hc).1
  have el : l = l.take n ++ [c] ++ l.drop (n + 1) := by
    have e : l[n] = c := (List.getElem?_eq_some_iff.mp hc).2
    rw [List.append_assoc, List.singleton_append, ← e, ← List.drop_eq_getElem_cons hn, List.take_append_drop]
  rw [el] at e2
  rw [fin_three] at e1 e2
  unfold dst at e1 e2
  rcases run_br l 0 0 h c (List.mem_of_getElem? hc) with k | k
  · subst k; simp at e1 e2; omega
  · subst k; simp at e1 e2; omega
theorem not_rubbed (a b : List Nat) : isClosed (a ++ [63] ++ b) = false := by
  unfold isClosed
  have : decide (63 ∉ a ++ [63] ++ b) = false := by simp
  rw [this]; rfl
theorem not_tail {l : List Nat} (h : run 0 l = some 0) (hne : l ≠ []) : isClosed (l.drop 1) = false := by
  have hr := (run_br l 0 0 h).row
  refine notClosed (hr.drop 1) fun q => ?_
  have e1 := run_even _ _ _ q
  have e2 := run_even _ _ _ h
  have : 0 < l.length := List.length_pos_iff.mpr hne
  rw [List.length_drop] at e1
  omega
theorem not_wrong {l : List Nat} (hr : IsRow l) : isClosed ([41, 40] ++ l) = false :=
  notClosed (IsRow.append (fun c hc => by simp at hc; rcases hc with h | h <;> simp [h]) hr) fun q => by cases q
theorem run_two {a b : List Nat} (ha : run 0 a = some 0) (hb : run 0 b = some 0) : run 0 (a ++ b) = some 0 := by
  rw [run_app, ha]; exact hb
theorem run_eight {a : List Nat} (ha : run 0 a = some 0) : run 0 ([40, 40, 40, 40, 40, 40, 40, 40] ++ a ++ [41, 41, 41, 41, 41, 41, 41, 41]) = some 0 := by
  rw [run_app, run_app]
  have e : run 0 [40, 40, 40, 40, 40, 40, 40, 40] = some 8 := rfl
  have h := run_add a 0 0 8 ha
  rw [e]
  show ((run 8 a).bind _) = _
  rw [show (8 : Nat) = 0 + 8 from rfl, h]
  rfl
end BR

set_option linter.all false
namespace BR
/-- the depth ahead of place t -/
def Dp (l : List Nat) (t : Nat) : Int := fin 0 (l.take t)
theorem Dp_succ {l : List Nat} {i c : Nat} (h : l[i]? = some c) : Dp l (i + 1) = dst (Dp l i) c := by
  unfold Dp
  rw [List.take_add_one, h]
  show fin 0 (l.take i ++ [c]) = _
  rw [fin_snoc]
theorem run_take : ∀ (l : List Nat) (d e i : Nat), run d l = some e → ∃ m, run d (l.take i) = some m
  | l, d, e, i, h => by
    have h2 : run d (l.take i ++ l.drop i) = some e := by rw [List.take_append_drop]; exact h
    rw [run_app] at h2
    cases q : run d (l.take i) with
    | none => rw [q] at h2; cases h2
    | some m => exact ⟨m, rfl⟩
theorem Dp_nonneg {l : List Nat} (h : run 0 l = some 0) (t : Nat) : 0 ≤ Dp l t := by
  obtain ⟨m, hm⟩ := run_take l 0 0 t h
  have := run_fin _ _ _ hm
  unfold Dp
  rw [show (0 : Int) = ((0 : Nat) : Int) from rfl, this]
  omega
theorem Dp_end {l : List Nat} (h : run 0 l = some 0) : Dp l l.length = 0 := by
  unfold Dp
  rw [List.take_length]
  exact run_fin l 0 0 h
/-- a opens, b is its partner -/
def Pr (l : List Nat) (a b : Nat) : Prop := a < b ∧ Dp l (b + 1) = Dp l a ∧ ∀ t, a < t → t ≤ b → Dp l a < Dp l t
structure PI (l : List Nat) (i : Nat) (s : List Nat) (f : List Int) : Prop where
  len : f.length = l.length
  sl : (s.length : Int) = Dp l i
  st : ∀ (k x : Nat), s[k]? = some x → x < i ∧ Dp l x = k ∧ ∀ t, x < t → t ≤ i → (k : Int) < Dp l t
  mt : ∀ t, t < i → t ∉ s → ∃ u : Nat, u < i ∧ u ∉ s ∧ f[t]? = some (u : Int) ∧ f[u]? = some (t : Int) ∧ (Pr l t u ∨ Pr l u t)
theorem PI.start (l : List Nat) (f : List Int) (h : f.length = l.length) : PI l 0 [] f :=
  ⟨h, rfl, fun k x e => by simp at e, fun t ht => absurd ht (Nat.not_lt_zero _)⟩
theorem PI.openS {l : List Nat} {i : Nat} {s : List Nat} {f : List Int} (p : PI l i s f) (h : l[i]? = some 40) : PI l (i + 1) (s ++ [i]) f := by
  have e : Dp l (i + 1) = Dp l i + 1 := Dp_succ h
  refine ⟨p.len, ?_, fun k x hx => ?_, fun t ht hn => ?_⟩
  · rw [List.length_append, e, ← p.sl]; simp
  · by_cases hk : k < s.length
    · rw [List.getElem?_append_left hk] at hx
      obtain ⟨a, b, c⟩ := p.st k x hx
      refine ⟨by omega, b, fun t h1 h2 => ?_⟩
      by_cases q : t ≤ i
      · exact c t h1 q
      · have : t = i + 1 := by omega
        subst this
        have := p.sl
        omega
    · rw [List.getElem?_append_right (by omega)] at hx
      have hk2 : k - s.length = 0 := by
        cases q : k - s.length with
        | zero => rfl
        | succ n => rw [q] at hx; simp at hx
      rw [hk2] at hx
      have ex : i = x := Option.some.inj hx
      subst ex
      have := p.sl
      refine ⟨by omega, by omega, fun t h1 h2 => ?_⟩
      have : t = i + 1 := by omega
      subst this
      omega
  · have h1 : t ∉ s := fun q => hn (List.mem_append_left _ q)
    have h2 : t ≠ i := fun q => hn (List.mem_append_right _ (by simp [q]))
    obtain ⟨u, a, b, c, d, e'⟩ := p.mt t (by omega) h1
    refine ⟨u, by omega, fun q => ?_, c, d, e'⟩
    rcases List.mem_append.mp q with q | q
    · exact b q
    · have : u = i := by simpa using q
      omega
theorem PI.top {l : List Nat} {i c : Nat} {s : List Nat} {f : List Int} (p : PI l i s f) (hi : l[i]? = some c) (hc : c ≠ 40) (hr : run 0 l = some 0) :
    ∃ s' o, s = s' ++ [o] ∧ o < l.length ∧ o ≠ i := by
  have e : Dp l (i + 1) = Dp l i - 1 := by rw [Dp_succ hi]; unfold dst; rw [if_neg hc]
  have h0 := Dp_nonneg hr (i + 1)
  have hs := p.sl
  have hne : s ≠ [] := fun q => by rw [q] at hs; simp at hs; omega
  refine ⟨s.dropLast, s.getLast hne, (List.dropLast_concat_getLast hne).symm, ?_⟩
  have hl : s[s.length - 1]? = some (s.getLast hne) := by rw [← List.getLast?_eq_getElem?, List.getLast?_eq_getLast hne]
  obtain ⟨a, _, _⟩ := p.st _ _ hl
  have := (List.getElem?_eq_some_iff.mp hi).1
  exact ⟨by omega, by omega⟩
theorem PI.closeS {l : List Nat} {i c : Nat} {s : List Nat} {o : Nat} {f : List Int} (p : PI l i (s ++ [o]) f) (hi : l[i]? = some c) (hc : c ≠ 40) : PI l (i + 1) s ((f.set i (o : Int)).set o (i : Int)) := by
  have e : Dp l (i + 1) = Dp l i - 1 := by rw [Dp_succ hi]; unfold dst; rw [if_neg hc]
  have hil := (List.getElem?_eq_some_iff.mp hi).1
  have hs := p.sl
  rw [List.length_append] at hs
  have hs2 : (s.length : Int) + 1 = Dp l i := by simpa using hs
  obtain ⟨a, b, hab⟩ := p.st s.length o (by rw [List.getElem?_append_right (Nat.le_refl _), Nat.sub_self]; rfl)
  have hpr : Pr l o i := ⟨a, by omega, fun t h1 h2 => by have := hab t h1 h2; omega⟩
  have hst : ∀ (k x : Nat), s[k]? = some x → x < i ∧ Dp l x = k ∧ ∀ t, x < t → t ≤ i → (k : Int) < Dp l t := fun k x hx => p.st k x (by
    rw [List.getElem?_append_left (List.getElem?_eq_some_iff.mp hx).1]; exact hx)
  have os : o ∉ s := fun q => by
    obtain ⟨k, hk⟩ := List.mem_iff_getElem?.mp q
    have := (hst k o hk).2.1
    have := (List.getElem?_eq_some_iff.mp hk).1
    omega
  have is_ : i ∉ s := fun q => by
    obtain ⟨k, hk⟩ := List.mem_iff_getElem?.mp q
    have := (hst k i hk).1
    omega
  have hlen := p.len
  refine ⟨by simpa using p.len, by omega, fun k x hx => ?_, fun t ht hn => ?_⟩
  · obtain ⟨a1, b1, c1⟩ := hst k x hx
    have hk := (List.getElem?_eq_some_iff.mp hx).1
    refine ⟨by omega, b1, fun t h1 h2 => ?_⟩
    by_cases q : t ≤ i
    · exact c1 t h1 q
    · have : t = i + 1 := by omega
      subst this
      omega
  · by_cases h1 : t = i
    · subst h1
      refine ⟨o, by omega, os, ?_, ?_, .inr hpr⟩
      · rw [List.getElem?_set_ne (by omega), List.getElem?_set_self (by omega)]
      · rw [List.getElem?_set_self (by simp; omega)]
    · by_cases h2 : t = o
      · subst h2
        refine ⟨i, by omega, is_, ?_, ?_, .inl hpr⟩
        · rw [List.getElem?_set_self (by simp; omega)]
        · rw [List.getElem?_set_ne (by omega), List.getElem?_set_self (by omega)]
      · have h3 : t ∉ s ++ [o] := fun q => by
          rcases List.mem_append.mp q with q | q
          · exact hn q
          · exact h2 (by simpa using q)
        obtain ⟨u, u1, u2, u3, u4, u5⟩ := p.mt t (by omega) h3
        have u6 : u ≠ o := fun q => u2 (List.mem_append_right _ (by simp [q]))
        refine ⟨u, by omega, fun q => u2 (List.mem_append_left _ q), ?_, ?_, u5⟩
        · rw [List.getElem?_set_ne (by omega), List.getElem?_set_ne (by omega)]; exact u3
        · rw [List.getElem?_set_ne (by omega), List.getElem?_set_ne (by omega)]; exact u4
/-- the partners of a closed row -/
def PM (l : List Nat) (f : List Int) : Prop := f.length = l.length ∧ ∀ t, t < l.length → ∃ u : Nat, u < l.length ∧ f[t]? = some (u : Int) ∧ f[u]? = some (t : Int) ∧ (l[t]? = some 40 → Pr l t u)
theorem PI.done {l : List Nat} {s : List Nat} {f : List Int} (p : PI l l.length s f) (hr : run 0 l = some 0) : PM l f := by
  refine ⟨p.len, fun t ht => ?_⟩
  have hs := p.sl
  rw [Dp_end hr] at hs
  have hs : s = [] := List.length_eq_zero_iff.mp (by omega)
  subst hs
  obtain ⟨u, u1, _, u3, u4, u5⟩ := p.mt t ht (by simp)
  refine ⟨u, u1, u3, u4, fun h => ?_⟩
  rcases u5 with q | q
  · exact q
  · have e : Dp l (t + 1) = Dp l t + 1 := Dp_succ h
    have := q.2.1
    have := q.2.2 t q.1 (Nat.le_refl _)
    omega
end BR

set_option Elab.async false
set_option linter.all false
set_option maxRecDepth 100000
/-! Fillings of a row, by counting. -/
namespace BR
def fits (l t : List Nat) : Bool := (l.zip t).all fun p => decide (p.1 = 63 ∨ p.1 = p.2)
def isFilling (l t : List Nat) : Bool := decide (t.length = l.length) && (isClosed t && fits l t)
def fillE : Nat → List Nat → List Nat
  | _, [] => []
  | k, c :: r => (if c = 63 then (if 0 < k then 40 else 41) else c) :: fillE (if c = 63 then k - 1 else k) r
theorem fillE_len : ∀ (l : List Nat) (k : Nat), (fillE k l).length = l.length
  | [], _ => rfl
  | c :: r, k => by simp only [fillE, List.length_cons, fillE_len r]
theorem fillE_take : ∀ (l : List Nat) (k m : Nat), (fillE k l).take m = fillE k (l.take m)
  | [], _, m => by simp [fillE]
  | c :: r, k, 0 => rfl
  | c :: r, k, m + 1 => by simp only [fillE, List.take_succ_cons, fillE_take r]
theorem fillE_snoc : ∀ (l : List Nat) (k c : Nat), fillE k (l ++ [c]) = fillE k l ++ [if c = 63 then (if 0 < k - l.count 63 then 40 else 41) else c]
  | [], k, c => by
    show (if c = 63 then (if 0 < k then 40 else 41) else c) :: [] = [] ++ [if c = 63 then (if 0 < k - 0 then 40 else 41) else c]
    rfl
  | d :: r, k, c => by
    simp only [fillE, List.cons_append, fillE_snoc r, List.count_cons]
    by_cases h : d = 63
    · subst h
      simp only [if_true, beq_self_eq_true]
      rw [show k - 1 - List.count 63 r = k - (List.count 63 r + 1) by omega]
    · simp only [if_neg h]
      have hb : (d == 63) = false := beq_eq_false_iff_ne.mpr h
      simp [hb]
theorem fits_fillE : ∀ (l : List Nat) (k : Nat), fits l (fillE k l) = true
  | [], _ => rfl
  | c :: r, k => by
    have ih := fits_fillE r (if c = 63 then k - 1 else k)
    unfold fits at ih ⊢
    simp only [fillE, List.zip_cons_cons, List.all_cons, ih, Bool.and_true, decide_eq_true_eq]
    by_cases h : c = 63
    · exact .inl h
    · rw [if_neg h]; exact .inr rfl
theorem fillE_br : ∀ (l : List Nat) (k : Nat), IsRow l → Br (fillE k l)
  | [], _, _ => fun c hc => by cases hc
  | c :: r, k, h => fun x hx => by
    simp only [fillE, List.mem_cons] at hx
    rcases hx with hx | hx
    · by_cases hc : c = 63
      · rw [if_pos hc] at hx
        by_cases hk : 0 < k
        · rw [if_pos hk] at hx; exact .inl hx
        · rw [if_neg hk] at hx; exact .inr hx
      · rw [if_neg hc] at hx
        subst hx
        rcases h x List.mem_cons_self with e | e | e
        · exact .inl e
        · exact .inr e
        · exact absurd e hc
    · exact fillE_br r _ (fun y hy => h y (List.mem_cons_of_mem _ hy)) x hx
theorem count3 : ∀ (l : List Nat), IsRow l → l.count 40 + l.count 41 + l.count 63 = l.length
  | [], _ => rfl
  | c :: r, h => by
    have ih := count3 r fun y hy => h y (List.mem_cons_of_mem _ hy)
    simp only [List.count_cons, List.length_cons]
    rcases h c List.mem_cons_self with e | e | e <;> subst e <;> simp <;> omega
theorem fin_count : ∀ (l : List Nat), Br l → fin 0 l = (l.count 40 : Int) - (l.count 41 : Int)
  | [], _ => rfl
  | c :: r, h => by
    have ih := fin_count r fun y hy => h y (List.mem_cons_of_mem _ hy)
    rw [fin_cons, fin_add, ih]
    simp only [List.count_cons]
    rcases h c List.mem_cons_self with e | e <;> subst e <;> simp [dst] <;> omega
theorem cnt40 : ∀ (l : List Nat) (k : Nat), IsRow l → (fillE k l).count 40 = l.count 40 + min k (l.count 63)
  | [], k, _ => by simp [fillE]
  | c :: r, k, h => by
    have ih := fun j => cnt40 r j fun y hy => h y (List.mem_cons_of_mem _ hy)
    simp only [fillE, List.count_cons, ih]
    rcases h c List.mem_cons_self with e | e | e
    · subst e; simp; omega
    · subst e; simp
    · subst e
      by_cases hk : 0 < k
      · simp [hk]; omega
      · simp [hk]; omega
theorem fin_fillE {l : List Nat} (h : IsRow l) (k : Nat) : fin 0 (fillE k l) = 2 * ((l.count 40 : Int) + min (k : Int) (l.count 63)) - l.length := by
  have h1 := fin_count _ (fillE_br l k h)
  have h2 := cnt40 l k h
  have h3 := count3 (fillE k l) (fillE_br l k h).row
  have h4 : (fillE k l).count 63 = 0 := List.count_eq_zero.mpr fun hm => by rcases fillE_br l k h 63 hm with e | e <;> cases e
  have h5 := fillE_len l k
  omega
theorem isClosed_of {t : List Nat} (hb : Br t) (h0 : fin 0 t = 0) (h : ∀ m, m ≤ t.length → 0 ≤ fin 0 (t.take m)) : isClosed t = true := by
  unfold isClosed
  have n63 : 63 ∉ t := fun hm => by rcases hb 63 hm with e | e <;> cases e
  rw [decide_eq_true n63, decide_eq_true h0, Bool.true_and, Bool.and_true, List.all_eq_true]
  intro x hx
  obtain ⟨i, hi⟩ := List.getElem?_of_mem hx
  have hlt := (List.getElem?_eq_some_iff.mp hi).1
  rw [dps_len] at hlt
  rw [dps_get 0 t i (by omega)] at hi
  cases hi
  exact decide_eq_true (h i (by omega))
/-- where no beginning closes too much and no end opens too much, the earliest filling is one -/
theorem earliest_ok {l : List Nat} (h : IsRow l) (he : l.length % 2 = 0) (h1 : ∀ m, 1 ≤ m → m ≤ l.length → 2 * (l.take m).count 41 ≤ m) (h2 : ∀ m, 1 ≤ m → m ≤ l.length → 2 * (l.drop (l.length - m)).count 40 ≤ m) :
    2 * l.count 40 ≤ l.length ∧ isFilling l (fillE (l.length / 2 - l.count 40) l) = true := by
  have e1 : 2 * l.count 41 ≤ l.length := by
    by_cases hz : l.length = 0
    · have := count3 l h; omega
    · have := h1 l.length (by omega) (Nat.le_refl _); rwa [List.take_length] at this
  have e2 : 2 * l.count 40 ≤ l.length := by
    by_cases hz : l.length = 0
    · have := count3 l h; omega
    · have := h2 l.length (by omega) (Nat.le_refl _); rwa [Nat.sub_self, List.drop_zero] at this
  refine ⟨e2, ?_⟩
  have c3 := count3 l h
  unfold isFilling
  rw [fillE_len, decide_eq_true rfl, fits_fillE, Bool.true_and, Bool.and_true]
  refine isClosed_of (fillE_br l _ h) ?_ fun m hm => ?_
  · rw [fin_fillE h]; omega
  · rw [fillE_len] at hm
    rw [fillE_take, fin_fillE (h.take m), List.length_take]
    have c3m := count3 _ (h.take m)
    rw [List.length_take] at c3m
    have ca : (l.take m).count 40 + (l.drop m).count 40 = l.count 40 := by rw [← List.count_append, List.take_append_drop]
    have hd := h2 (l.length - m)
    rw [show l.length - (l.length - m) = m by omega] at hd
    have ht := h1 m
    have hdl : (l.drop m).count 40 ≤ l.length - m := by have := List.count_le_length (a := 40) (l := l.drop m); rwa [List.length_drop] at this
    by_cases hm0 : m = 0
    · subst hm0; simp; omega
    · have ht := ht (by omega) hm
      by_cases hq : (l.take m).count 63 ≤ l.length / 2 - l.count 40
      · omega
      · by_cases hmn : m = l.length
        · subst hmn; rw [List.take_length] at *; omega
        · have hd := hd (by omega) (by omega); omega
end BR
namespace BR
theorem run_le : ∀ (l : List Nat) (d e : Nat), run d l = some e → e ≤ d + l.length
  | [], d, e, h => by
    have h : some d = some e := h
    cases h
    exact Nat.le_refl _
  | c :: r, d, e, h => by
    by_cases h1 : c = 40
    · subst h1
      have := run_le r (d + 1) e h
      simp only [List.length_cons]; omega
    · by_cases h2 : c = 41
      · subst h2
        cases d with
        | zero => cases h
        | succ k =>
          have := run_le r k e h
          simp only [List.length_cons]; omega
      · rw [run_no h1 h2] at h; cases h
theorem run_more {a b : List Nat} (h : run 0 a = none) : run 0 (a ++ b) = none := by rw [run_app, h]; rfl
end BR

set_option Elab.async false
set_option linter.all false
set_option maxRecDepth 100000
set_option maxHeartbeats 4000000
/-! Rules for own instances of several classes; count over any flat items; text told backwards. -/
namespace L2
open PySem PySem.Spec PyProof.Rows
/-! ### xs.count(y), any flat items -/
def rCntV (K : PySem.W.Frag) : V → List V → Hp → VK → Prop := fun x xs H Q => ∃ p ys y, x = .ref p ∧ xs = [y] ∧ SqL K H p ys ∧ flatV y = true ∧ ys.all flatV = true ∧ Q (.int ((ys.countP fun z => eqV z y : Nat) : Int)) H
theorem count_eqU {x : V} : ∀ {xs : List V} {us : List Value}, Vals xs us → xs.all flatV = true → us.countP (eqU x) = xs.countP fun y => eqV y x
  | _, _, .nil, _ => rfl
  | y :: xs, u :: us, .cons r t, f => by
    rw [List.all_cons, Bool.and_eq_true] at f
    rw [List.countP_cons, List.countP_cons, eqU_of r f.1, count_eqU t f.2]
theorem mt_lcountV {X : Cx} : MtR X "list.count" (rCntV X.K) := by
  intro pins s σ H x xs v us Q I rx rxs h
  obtain ⟨p, ys, y, rfl, rfl, hs, fy, fs, q⟩ := h
  cases rx
  obtain ⟨u, rfl, ru⟩ := rxs.one
  obtain ⟨its, rv, ⟨⟨cls, dd, data, sl⟩, n, ho, hc, hdn, hd⟩, hlen⟩ := I.list hs
  simp only at hc hd
  subst hc hd
  refine call_meets PySem.F.slot_list_count ⟨_, ho, rfl⟩ PySem.F.entry_list_count (PySem.F.args_list_count_2 _ _)
    (SeqAt.list_countAt p its.toArray n dd sl u (eqU y)) ⟨ho, fun w hw => mem_eqAt ru fy rv fs w (by simpa using hw), ?_⟩
  refine ⟨.int ((ys.countP fun z => eqV z y : Nat) : Int), H, I.tok _, ⟨s.toks, ?_⟩, q⟩
  show Value.int ((its.toArray.toList.countP (eqU y) : Nat) : Int) s.toks = Value.int ((ys.countP (fun z => eqV z y) : Nat) : Int) s.toks
  rw [show its.toArray.toList = its by simp, count_eqU rv fs]
/-! ### text[::-1] -/
theorem pickS_rev (x : Str) : ((Builtin.Str.strSliceIndices none none (-1) x.length).filterMap (x.cps[·]?)).toArray = x.cps.reverse := by
  have h : Builtin.Str.strSliceIndices none none (-1) x.length = sliceRange ((x.cps.size : Int) - 1) (-1) (-1) := rfl
  rw [h, PySem.W.krv_sliceRange, PySem.W.krv_range, List.filterMap_reverse, PySem.W.krv_all]
  apply Array.ext'
  simp
def tRevS (te : TE) : TE := fun σ H Q => te σ H fun x H1 => ∃ z, x = .str z ∧ z.length ≤ sizeLine ∧ Q (.str ⟨z.cps.reverse⟩) H1
theorem pe_revS {X : Cx} {e : Expr} {te : TE} {k : Nat} {p1 p2 p3 pos : Pos} (he : PE X e te) : PE X (.Subscript e (.Slice none none (some (.UnaryOp .USub (.Constant (.int 1) k p1) p2)) p3) pos) (tRevS te) := by
  refine ⟨fun pins s σ H Q I h => ?_⟩
  refine Subscript_ (thn (he.run pins s σ H _ I h) fun v s1 ⟨x, H1, I1, r1, q1⟩ => ?_)
  obtain ⟨z, ex, hz, q⟩ := q1
  subst ex
  obtain ⟨t, rfl⟩ := r1
  have hst : PO X (some (.UnaryOp .USub (.Constant (.int 1) k p1) p2)) (tPart (tUn (rU fun i => .int (-i)) (tC (.int 1)))) := po_some (pe_un un_neg pe_int)
  refine wpAny_Slice (thn (po_none.run pins s1 σ H1 (fun o H2 => o = none ∧ H2 = H1) I1 ⟨rfl, rfl⟩) fun vl s2 ⟨l, H2, I2, pl, el, e2⟩ => ?_)
  subst el e2
  refine thn (po_none.run pins s2 σ H2 (fun o H3 => o = none ∧ H3 = H2) I2 ⟨rfl, rfl⟩) fun vu s3 ⟨u, H3, I3, pu, eu, e3⟩ => ?_
  subst eu e3
  refine thn (hst.run pins s3 σ H3 (fun o H4 => o = some (-1) ∧ H4 = H3) I3 ⟨1, rfl, -1, rfl, rfl, rfl⟩) fun vs s4 ⟨o, H4, I4, ps, eo, e4⟩ => ?_
  subst eo e4
  have I5 : Inv X pins σ H4 { s4 with heap := s4.heap.push { cls := .type "slice", data := .fields #[vl, vu, vs] } } := I4.kept (t' := s4.toks) fun b ob q => Heap.get?_push_of_some _ q
  obtain ⟨ll, rfl, el'⟩ := IsPart.raw pl
  obtain ⟨uu, rfl, eu'⟩ := IsPart.raw pu
  obtain ⟨ss, rfl, es'⟩ := IsPart.raw ps
  show wpAny (model X.prog X.w) X.A (subscriptTail e (.Slice none none (some (.UnaryOp .USub (.Constant (.int 1) k p1) p2)) p3) (.str z t) (.ref s4.heap.objs.size)) (EP X pins σ Q) X.xe _
  refine tail_any (ops := [.str z t, .ref s4.heap.objs.size]) (typeIs_str _ _ _) (PySem.F.slot_str_getitem.lookup) ?_ (by with_unfolding_all rfl)
  refine wpAny_getItem_str_slice (l := ll) (u := uu) (st := ss) ?_ (by rw [es']; rfl) ?_
  · exact ⟨_, Heap.get?_push_size _ rfl, rfl, rfl⟩
  unfold sliceMade slicePicked
  rw [el', eu', es', if_neg (fun z => by rw [Bool.and_eq_true] at z; exact absurd z.1 (by decide))]
  show Made.post (Made.str ⟨((Builtin.Str.strSliceIndices none none (-1) z.length).filterMap (z.cps[·]?)).toArray⟩) _ _
  rw [pickS_rev]
  exact ⟨by show z.cps.reverse.size ≤ sizeLine; rw [Array.size_reverse]; exact hz, .str _, H4, I5.tok _, ⟨_, rfl⟩, q⟩
/-! ### C() of a class without __init__ -/
structure Mk0 (K : PySem.W.Frag) (C : Addr) : Prop where
  makes : PySem.W.makesIn K C = true
  init : PySem.W.findIn K (.ref C) "__init__" = some (some (.builtin "object.__init__"))
  kp : PySem.W.keepIn K (.ref C) = true
def tMakeP (C : Addr) : TE := fun σ H Q => ∀ x dx, H x = none → H dx = none → dx ≠ x → Q (.ref x) (upd (upd H dx (.own x)) x (.ins C dx []))
theorem pe_makePlain {X : Cx} {C : Addr} {x : Str} {p pos : Pos} (M : Mk0 X.K C) (hg : Gl X x) (hm : X.mg x = some (.ref C)) (hdb : (x == ("__debug__" : Str)) = false := by decide) :
    PE X (.Call (.Name x p) [] [] pos) (tMakeP C) := by
  refine ⟨fun pins s σ H Q I h => ?_⟩
  refine wpAny_Call_Name_kw (ld_glob I hg hm ?_ hdb)
  refine PySem.W.callWith_K0 I.kIn M.kp ?_
  have hq := h (s.heap.objs.size + 1) s.heap.objs.size (I.hok.fresh (Nat.le_succ _)) (I.hok.fresh (Nat.le_refl _)) (Nat.ne_of_lt (Nat.lt_succ_self _))
  have I2 := Inv.made (C := C) I
  have Y := PySem.W.makes_of (M := model X.prog X.w) I.kIn M.makes
  have g1 : ((s.heap.push PySem.W.emptyDict).push (PySem.W.instObj C s.heap.objs.size)).get? (s.heap.objs.size + 1) = some (PySem.W.instObj C s.heap.objs.size) := by
    have := Heap.get?_push_size (s.heap.push PySem.W.emptyDict) (o := PySem.W.instObj C s.heap.objs.size) rfl
    rwa [Heap.size_push] at this
  obtain ⟨hh, g, d, t, os⟩ := s
  refine wpAny_call (PySem.W.make_core Y (PySem.W.looks_findIn I.kIn M.init) (fun self => PySem.W.Looks.of_pure (PySem.W.oi_bind self)) (.inr ⟨rfl, rfl⟩) ?_)
  have t1 : PySem.W.Looks (model X.prog X.w) ((hh.push PySem.W.emptyDict).push (PySem.W.instObj C hh.objs.size)) (typeOf (.ref (hh.objs.size + 1))) (.ref C) := (PySem.W.Looks.ld g1).andThen .now
  have t2 : PySem.W.Looks (model X.prog X.w) ((hh.push PySem.W.emptyDict).push (PySem.W.instObj C hh.objs.size)) (isInstance (.ref (hh.objs.size + 1)) (.type "object")) true := t1.andThen (Y.top.keeps fun b o e => Heap.get?_push_of_some _ (Heap.get?_push_of_some _ e))
  refine codeAny_call_builtin PySem.W.oi_plain PySem.W.entry_oi (@PySem.W.check_slot (model X.prog X.w) _ _ _ "object.__init__" "object" "__init__" (.ref (hh.objs.size + 1)) [] [] _ PySem.W.oi_kind PySem.W.oi_split t2 (PySem.W.oi_args (.ref (hh.objs.size + 1))) ?_)
  show wpAny _ _ (Builtin.«object.__init__» ⟨[Value.ref (hh.objs.size + 1)], []⟩) _ _ _
  rw [PySem.W.oi_run]
  exact wpAny_pure (And.intro rfl ⟨V.ref (hh.objs.size + 1), _, I2, rfl, hq⟩)
/-! ### o.m(..), o an instance of one of several classes -/
def HasM (P : Program) (w : World) (K : PySem.W.Frag) (mg : Str → Option Value) (base : Heap) (CX : CXT) (k : Nat) (m : Str) (C : Addr) (sp : Sp) : Prop :=
  ∃ (j : Nat) (f : Addr) (fd : FuncData) (ps : List Str), j ≤ k ∧ Cls K C ∧ Meth K C m f ∧ FnOk P w K mg base CX j f fd ps sp ∧ Binds K fd ps []
def tMethX (S : Addr → Sp → Prop) (m : Str) (E : XK) (ta : TE) (t : TA) : TE := fun σ H Q => ta σ H fun x H1 => ∃ a dx fs C sp, x = .ref a ∧ H1 a = some (.ins C dx fs) ∧ fs.lookup m = none ∧ S C sp ∧
  t σ H1 fun vs H2 => sp (x :: vs) H2 Q E
theorem pe_methX {X : Cx} {CX : CXT} {k : Nat} {m : Str} {E : XK} {o e : Expr} {es : List Expr} {ta : TE} {t : TA} {apos pos : Pos} {pl : Sem Bool} {S : Addr → Sp → Prop} (he : PE X o ta) (A : ∀ C sp, S C sp → HasM X.prog X.w X.K X.mg X.base CX k m C sp) (hr : Room k X.A) (hx : Passes CX X E) (ha : PA X (e :: es) t)
    (hst : starEach (e :: es) X.env = (false, eval e X.env) :: starEach es X.env := by rfl) (hpl : (backTo pos (starEach es X.env)).any (·.1) = false := by rfl)
    (ht : eval (.Call (.Attribute o m apos) (e :: es) [] pos) X.env = (do
      let ov ← eval o X.env
      standAt apos.atName
      let (f, first) ← holding [ov] (getMethod ov m pl)
      callWith pos f first (backTo pos (starEach (e :: es) X.env)) (backToKw pos (keywordEach [] X.env))) := by rfl) :
    PE X (.Call (.Attribute o m apos) (e :: es) [] pos) (tMethX S m E ta t) := by
  refine ⟨fun pins s σ H Q I h => ?_⟩
  refine PySem.W.methodCall_KW (pl := pl) (thn (he.run pins s σ H _ I h) fun u s1 ⟨x, H1, I1, rx, a, dx, fs, C, sp, ex, ea, l, hS, q⟩ => ?_) ht
  subst ex
  obtain rfl : u = Value.ref a := rx
  obtain ⟨j, f, fd, ps, hj, c, hm, F, hb⟩ := A C sp hS
  refine getmeth_ok I1 ea c hm l ?_
  refine PySem.W.callWith_K (first := [.ref a]) (h₀ := X.base) I.ok.mod.kin hm.kp (thn (ha.run pos pins s1 σ H1 _ I1 q) fun us s2 ⟨vs, H2, I2, r, q2⟩ => ⟨I2.kIn, ?_⟩) hst hpl
  have q3 : sp ((V.ref a :: vs) ++ []) H2 Q E := by rw [List.append_nil]; exact q2
  exact run_fn (us := .ref a :: us) (vs := .ref a :: vs) (dvs := []) (ds := []) F (hr.mono hj) hb .nil hx I2 (.cons rfl r) q3
/-! ### own classes -/
structure OwnC (K : PySem.W.Frag) (C : Addr) : Prop where
  cl : Cls K C
  ha : PySem.W.findIn K (.ref C) "__class__" = some (some (.builtin "object.__class__"))
  hn : PySem.W.specialIn K (.builtin "object.__class__") "__get__" = some (some (.builtin "getset_descriptor.__get__"))
  ht : PySem.W.takesIn K (.builtin "object.__class__") = some true
  hm : PySem.W.mroIn K C (.type "object") = some true
theorem OwnC.ty {K : PySem.W.Frag} {H : Hp} {a C dx : Addr} {fs : List (Str × V)} (o : OwnC K C) (h : H a = some (.ins C dx fs)) : TyX K H (.ref a) (.ref C) := .base (.ins h o.cl o.ha o.hn o.ht o.hm)
structure MethIn (K : PySem.W.Frag) (x q : Str) (st : Stmt) (ps : List Str) : Type where
  a : Addr
  fd : FuncData
  F : Fun K x q st a fd
  b : Binds K fd ps []
/-! ### comprehensions over zip(text, text), range(n) -/
section
variable {K : PySem.W.Frag} {te : TE} {vs : List Nat} {σ : St} {H1 : Hp} {D : Addr} {Qd : Hp → Prop}
theorem zip_pick (F : Nat → Nat → V) : ∀ (l t : List Nat), t.length = l.length → (List.range l.length).map (fun i => F (l.getD i 0) (t.getD i 0)) = (l.zip t).map fun p => F p.1 p.2 := by
  intro l t h
  apply List.ext_getElem
  · simp [h]
  · intro i h1 h2
    simp at h1 h2
    simp [List.getD, h1, h]
theorem lc_zipS {l t : List Nat} {i j : Nat} (F : Nat → Nat → V) (hD : H1 D = none) (hn : l.length ≤ 100000) (hlen : t.length = l.length) (hw : ∀ x y, wipe (((wipe σ vs).set i (some x)).set j (some y)) vs = wipe σ vs)
    (he : ∀ c d H', Same H1 H' → ∀ Q : VK, (∀ H4, Same H' H4 → Q (F c d) H4) → te (((wipe σ vs).set i (some (ch c))).set j (some (ch d))) H' Q)
    (hd : ∀ H, Same H1 H → H D = some (.lst ((l.zip t).map fun p => F p.1 p.2)) → Qd H) :
    CompOk (ItP (min (St_ l).cps.size (St_ t).cps.size) (pvZS (St_ l) (St_ t))) (gTup K 2 (gCons (gName i) (gCons (gName j) gNil))) tYes te vs σ H1 D Qd := by
  have hsz : min (St_ l).cps.size (St_ t).cps.size = l.length := by simp [hlen]
  refine lc_pure walk_pairs (fun k => F (l.getD k 0) (t.getD k 0)) hD (by rw [hsz]; exact hn) (fun _ _ => trivial) (fun k H x H' y => ?_) (fun k x H H' hk s y s' Q R q => ?_) (fun H s e => hd H s ?_)
  · obtain ⟨T, x1, x2, _, nT, rfl, _⟩ := y
    exact Same.new nT
  · obtain ⟨T, x1, x2, rfl, nT, rfl, ⟨c, hc, rfl⟩, d, hd', rfl⟩ := y
    have hc' : l[k]? = some c := by simpa using hc
    have hd'' : t[k]? = some d := by simpa using hd'
    refine g2 upd_same ⟨hw _ _, ?_⟩
    show (if true = true then te (((wipe σ vs).set i (some (ch c))).set j (some (ch d))) (upd H T (.tup [ch c, ch d])) Q else R (upd H T (.tup [ch c, ch d])))
    rw [if_pos rfl]
    refine he c d _ s' Q fun H4 s4 => ?_
    have := q H4 s4
    rw [show l.getD k 0 = c by rw [List.getD, hc']; rfl, show t.getD k 0 = d by rw [List.getD, hd'']; rfl] at this
    exact this
  · rw [hsz, zip_pick F l t hlen] at e
    exact e
theorem lc_rangeY {n j : Nat} (F : Nat → V) (hD : H1 D = none) (hn : n ≤ 100000) (hw : ∀ x, wipe ((wipe σ vs).set j (some x)) vs = wipe σ vs)
    (he : ∀ k H', k < n → Same H1 H' → ∀ Q : VK, (∀ H4, Same H' H4 → Q (F k) H4) → te ((wipe σ vs).set j (some (.int (k : Nat)))) H' Q)
    (hd : ∀ H, Same H1 H → H D = some (.lst ((List.range n).map F)) → Qd H) : CompOk (Itr 0 n) (gName j) tYes te vs σ H1 D Qd := by
  refine lc_pure walk_range F hD hn (fun _ _ => trivial) (fun i H x H' y => by rw [y.1]; exact Same.refl _) (fun k x H H' hk s y s' Q R q => ?_) hd
  obtain ⟨rfl, rfl⟩ := y
  show gName j (.int (0 + (k : Nat))) _ _ _
  rw [Int.zero_add]
  refine ⟨hw _, ?_⟩
  show (if true = true then te ((wipe σ vs).set j (some (.int (k : Nat)))) H' Q else R H')
  rw [if_pos rfl]
  exact he k _ hk s' Q q
end
theorem all_map_bl {α : Type} (f : α → Bool) (l : List α) : (l.map f).all id = l.all f := by rw [List.all_map]; rfl
/-! ### a list of signs beside an empty one -/
theorem canLay_chs : ∀ a : List Nat, BR.IsRow a → PyData.canLayAll0 (a.map fun c => PyData.str ⟨#[c]⟩) = true
  | [], _ => rfl
  | x :: a, h => by
    show (PyData.canLay0 (.str ⟨#[x]⟩) && PyData.canLayAll0 (a.map fun c => PyData.str ⟨#[c]⟩)) = true
    rw [canLay_chs a fun y hy => h y (List.mem_cons_of_mem _ hy), Bool.and_true]
    rcases h x List.mem_cons_self with e | e | e <;> subst e <;> simp [PyData.canLay0, PyData.strOk]
theorem depth_chs : ∀ a : List Nat, PyData.depthAll (a.map fun c => PyData.str ⟨#[c]⟩) = 0
  | [] => rfl
  | x :: a => by
    show max (PyData.depth (.str ⟨#[x]⟩)) (PyData.depthAll (a.map fun c => PyData.str ⟨#[c]⟩)) = 0
    rw [depth_chs a]; rfl
theorem dp_chs {K : PySem.W.Frag} {H : Hp} : ∀ a : List Nat, DpAll K H (a.map ch) (a.map fun c => PyData.str ⟨#[c]⟩)
  | [] => .nil
  | x :: a => .cons (.str _) (dp_chs a)
theorem rd_neNil {K : PySem.W.Frag} {H : Hp} {Q : VK} {p q : Addr} {a : List Nat} (hr : BR.IsRow a) (h1 : SqL K H p (a.map ch)) (h2 : SqL K H q []) (k : Q (.bl (!decide (a = []))) H) : rNeD K (.ref p) (.ref q) H Q := by
  refine ⟨_, _, .lst h1 (dp_chs a), .lst h2 .nil, ?_, rfl, ?_⟩
  · unfold SeqAt.shaped
    have h1 : PyData.canLay0 (.list (a.map fun c => PyData.str ⟨#[c]⟩)) = true := canLay_chs a hr
    have h2 : PyData.depth (.list (a.map fun c => PyData.str ⟨#[c]⟩)) = 1 := by
      show PyData.depthAll (a.map fun c => PyData.str ⟨#[c]⟩) + 1 = 1
      rw [depth_chs]
    rw [h1, h2]; rfl
  · have e : PyData.eqv (.list (a.map fun c => PyData.str ⟨#[c]⟩)) (.list []) = decide (a = []) := by
      rw [PyData.eqv]
      cases a <;> rfl
    rw [e]
    exact k
def pick3 (z : Int) : Nat := if z = 0 then 40 else if z = 1 then 41 else 63
theorem at3 (z : Int) : atI (Str.ofString "()?").cps.toList (z % 3) = some (pick3 (z % 3)) := by
  have h0 := Int.emod_nonneg z (show (3 : Int) ≠ 0 by decide)
  have h1 := Int.emod_lt_of_pos z (show (0 : Int) < 3 by decide)
  obtain h | h | h : z % 3 = 0 ∨ z % 3 = 1 ∨ z % 3 = 2 := by omega
  all_goals
    rw [h]
    decide +kernel
theorem pick3_row (z : Int) : pick3 z = 40 ∨ pick3 z = 41 ∨ pick3 z = 63 := by 
  unfold pick3
  by_cases h : z = 0
  · rw [if_pos h]; exact .inl rfl
  · rw [if_neg h]
    by_cases h1 : z = 1
    · rw [if_pos h1]; exact .inr (.inl rfl)
    · rw [if_neg h1]; exact .inr (.inr rfl)
theorem at2 (z : Int) : atI (Str.ofString "()").cps.toList (z % 2) = some (if z % 2 = 0 then 40 else 41) := by
  have h0 := Int.emod_nonneg z (show (2 : Int) ≠ 0 by decide)
  have h1 := Int.emod_lt_of_pos z (show (0 : Int) < 2 by decide)
  obtain h | h : z % 2 = 0 ∨ z % 2 = 1 := by omega
  all_goals
    rw [h]
    decide +kernel
theorem next_seq {t u : TS} {D E : Ends} {σ : St} {H : Hp} (e : D.nx = tSeq t u E) (h : tSeq t u E σ H) : tNext D σ H := by
  show D.nx σ H
  rw [e]
  exact h
theorem next_cut {t u : TS} {D E : Ends} {σ : St} {H : Hp} (e : D.nx = tCut2 t u E) (h : tCut2 t u E σ H) : tNext D σ H := by
  show D.nx σ H
  rw [e]
  exact h
section
variable {K : PySem.W.Frag} {t : TA} {g : TG} {tb rest : TS} {D : Ends} {σ : St} {H : Hp}
theorem sq_for_lst (h : t σ H fun xs H1 => xs.length ≤ sizeLine ∧ ∀ p, H1 p = none → ∃ a, V.ref p = .ref a ∧ (∃ ys, SqL K (upd H1 p (.lst xs)) a ys) ∧ LoopOk (Itl K a) g tb { D with nx := rest D } σ (upd H1 p (.lst xs))) :
    tSeq (tFor (iList K (tLst t)) g tb) rest D σ H := h
theorem l_for_lst (h : t σ H fun xs H1 => xs.length ≤ sizeLine ∧ ∀ p, H1 p = none → ∃ a, V.ref p = .ref a ∧ (∃ ys, SqL K (upd H1 p (.lst xs)) a ys) ∧ LoopOk (Itl K a) g tb D σ (upd H1 p (.lst xs))) :
    tFor (iList K (tLst t)) g tb D σ H := h
end
theorem St_rev (l : List Nat) : (⟨(St_ l).cps.reverse⟩ : Str) = St_ l.reverse := by
  show (⟨_⟩ : Str) = ⟨_⟩
  congr 1
  apply Array.ext'
  simp
theorem mul_row {l : List Nat} (h : BR.IsRow l) : ∀ n : Nat, BR.IsRow (List.replicate n l).flatten ∧ (List.replicate n l).flatten.length = n * l.length
  | 0 => ⟨fun c hc => by simp at hc, by simp⟩
  | n + 1 => by
    obtain ⟨h1, h2⟩ := mul_row h n
    rw [List.replicate_succ, List.flatten_cons]
    refine ⟨h.append h1, ?_⟩
    rw [List.length_append, h2, Nat.succ_mul]
    omega
theorem next_is {t : TS} {E : Ends} {r : V → Hp → Prop} {b c : St → Hp → Prop} {σ : St} {H : Hp} (h : t E σ H) : tNext { nx := t E, rt := r, bk := b, ct := c } σ H := h
end L2

set_option Elab.async false
set_option linter.all false
set_option maxRecDepth 100000
set_option maxHeartbeats 4000000
namespace HT
open PySem PySem.Spec PyProof.Rows L2 BR
def topS (i : Nat) : Stmt := PySem.Challenge.pw_halftold_k07_refused.main.body.getD i (.Pass ⟨0, 0, 0, 0⟩)
abbrev sAskedRow : Stmt := topS 9
abbrev sDepthsOf : Stmt := topS 10
abbrev sIsClosed : Stmt := topS 11
abbrev sIsFilling : Stmt := topS 12
abbrev sBehind : Stmt := topS 13
abbrev sAskedFilling : Stmt := topS 14
abbrev sPartners : Stmt := topS 15
abbrev sDepths : Stmt := topS 16
abbrev sIsPrice : Stmt := topS 25
abbrev sCheapest : Stmt := topS 26
abbrev sMoresOf : Stmt := topS 27
abbrev sOpened : Stmt := topS 28
abbrev sLevelsOf : Stmt := topS 29
abbrev sTableOf : Stmt := topS 31
abbrev sHowMany : Stmt := topS 32
abbrev sTold : Stmt := topS 33
abbrev sNumberOf : Stmt := topS 34
abbrev sEarliest : Stmt := topS 36
abbrev sFilled : Stmt := topS 37
abbrev sFirst : Stmt := topS 38
abbrev sLast : Stmt := topS 39
abbrev sSettled : Stmt := topS 40
abbrev sLawRowAsked : Stmt := topS 42
abbrev sLawNoneAsked : Stmt := topS 43
abbrev sLawOthersAsked : Stmt := topS 44
abbrev sLawTold : Stmt := topS 45
abbrev sLaw : Stmt := topS 46
abbrev sInitFilled : Stmt := inClass (topS 19) 0
abbrev sInitEarly : Stmt := inClass (topS 21) 0
abbrev sInitLate : Stmt := inClass (topS 22) 0
abbrev sInitCheapest : Stmt := inClass (topS 23) 0
theorem scAskedRow : FnScope ["row"] ["row"] (defScope sAskedRow) := ⟨rfl, rfl, rfl, by decide +kernel, rfl, by decide +kernel, by decide +kernel⟩
theorem scDepthsOf : FnScope ["text", "found", "sign"] ["text"] (defScope sDepthsOf) := ⟨rfl, rfl, rfl, by decide +kernel, rfl, by decide +kernel, by decide +kernel⟩
theorem scIsClosed : FnScope ["text", "told"] ["text"] (defScope sIsClosed) := ⟨rfl, rfl, rfl, by decide +kernel, rfl, by decide +kernel, by decide +kernel⟩
theorem scIsFilling : FnScope ["row", "text", "told", "sign"] ["row", "text"] (defScope sIsFilling) := ⟨rfl, rfl, rfl, by decide +kernel, rfl, by decide +kernel, by decide +kernel⟩
theorem scBehind : FnScope ["row", "found", "sign", "low", "high"] ["row"] (defScope sBehind) := ⟨rfl, rfl, rfl, by decide +kernel, rfl, by decide +kernel, by decide +kernel⟩
theorem scAskedFilling : FnScope ["row"] ["row"] (defScope sAskedFilling) := ⟨rfl, rfl, rfl, by decide +kernel, rfl, by decide +kernel, by decide +kernel⟩
theorem scPartners : FnScope ["row", "open_at", "found", "sign", "place", "other"] ["row"] (defScope sPartners) := ⟨rfl, rfl, rfl, by decide +kernel, rfl, by decide +kernel, by decide +kernel⟩
theorem scDepths : FnScope ["row"] ["row"] (defScope sDepths) := ⟨rfl, rfl, rfl, by decide +kernel, rfl, by decide +kernel, by decide +kernel⟩
theorem scIsPrice : FnScope ["thing", "one"] ["thing"] (defScope sIsPrice) := ⟨rfl, rfl, rfl, by decide +kernel, rfl, by decide +kernel, by decide +kernel⟩
theorem scCheapest : FnScope ["row", "prices", "price", "mores", "text"] ["row", "prices"] (defScope sCheapest) := ⟨rfl, rfl, rfl, by decide +kernel, rfl, by decide +kernel, by decide +kernel⟩
theorem scMoresOf : FnScope ["row", "prices", "found", "rubbed", "sign"] ["row", "prices"] (defScope sMoresOf) := ⟨rfl, rfl, rfl, by decide +kernel, rfl, by decide +kernel, by decide +kernel⟩
theorem scOpened : FnScope ["row", "mores", "signs", "sign", "waiting", "depth", "place", "best"] ["row", "mores"] (defScope sOpened) := ⟨rfl, rfl, rfl, by decide +kernel, rfl, by decide +kernel, by decide +kernel⟩
theorem scLevelsOf : FnScope ["row", "text", "mores", "told", "level", "found", "place"] ["row", "text", "mores"] (defScope sLevelsOf) := ⟨rfl, rfl, rfl, by decide +kernel, rfl, by decide +kernel, by decide +kernel⟩
theorem scTableOf : FnScope ["row", "found", "behind", "sign", "later", "now", "depth", "many"] ["row"] (defScope sTableOf) := ⟨rfl, rfl, rfl, by decide +kernel, rfl, by decide +kernel, by decide +kernel⟩
theorem scHowMany : FnScope ["row"] ["row"] (defScope sHowMany) := ⟨rfl, rfl, rfl, by decide +kernel, rfl, by decide +kernel, by decide +kernel⟩
theorem scTold : FnScope ["row", "number", "table", "left", "depth", "found", "place", "sign", "many"] ["row", "number"] (defScope sTold) := ⟨rfl, rfl, rfl, by decide +kernel, rfl, by decide +kernel, by decide +kernel⟩
theorem scNumberOf : FnScope ["row", "text", "table", "found", "depth", "place", "sign"] ["row", "text"] (defScope sNumberOf) := ⟨rfl, rfl, rfl, by decide +kernel, rfl, by decide +kernel, by decide +kernel⟩
theorem scEarliest : FnScope ["row", "left", "found", "sign"] ["row"] (defScope sEarliest) := ⟨rfl, rfl, rfl, by decide +kernel, rfl, by decide +kernel, by decide +kernel⟩
theorem scFilled : FnScope ["row", "many"] ["row"] (defScope sFilled) := ⟨rfl, rfl, rfl, by decide +kernel, rfl, by decide +kernel, by decide +kernel⟩
theorem scFirst : FnScope ["row"] ["row"] (defScope sFirst) := ⟨rfl, rfl, rfl, by decide +kernel, rfl, by decide +kernel, by decide +kernel⟩
theorem scLast : FnScope ["row", "told", "depth", "found", "place", "sign", "low", "high"] ["row"] (defScope sLast) := ⟨rfl, rfl, rfl, by decide +kernel, rfl, by decide +kernel, by decide +kernel⟩
theorem scSettled : FnScope ["row", "told", "low", "high", "found", "place", "sign", "least", "most", "ways"] ["row"] (defScope sSettled) := ⟨rfl, rfl, rfl, by decide +kernel, rfl, by decide +kernel, by decide +kernel⟩
theorem scLawRowAsked : FnScope ["_law_which", "_law_more", "_law_bad", "_law_door"] ["_law_which", "_law_more"] (defScope sLawRowAsked) := ⟨rfl, rfl, rfl, by decide +kernel, rfl, by decide +kernel, by decide +kernel⟩
theorem scLawNoneAsked : FnScope ["_law_which", "_law_more", "_law_bad", "_law_door"] ["_law_which", "_law_more"] (defScope sLawNoneAsked) := ⟨rfl, rfl, rfl, by decide +kernel, rfl, by decide +kernel, by decide +kernel⟩
theorem scLawOthersAsked : FnScope ["_law_kind", "_law_which", "_law_more", "_law_bad"] ["_law_kind", "_law_which", "_law_more"] (defScope sLawOthersAsked) := ⟨rfl, rfl, rfl, by decide +kernel, rfl, by decide +kernel, by decide +kernel⟩
theorem scLawTold : FnScope ["_law_kind", "_law_which", "_law_more", "error", "_law_found"] ["_law_kind", "_law_which", "_law_more"] (defScope sLawTold) := ⟨rfl, rfl, rfl, by decide +kernel, rfl, by decide +kernel, by decide +kernel⟩
theorem scLaw : FnScope ["_law_script", "_law_cell", "_law_kind", "_law_due"] ["_law_script"] (defScope sLaw) := ⟨rfl, rfl, rfl, by decide +kernel, rfl, by decide +kernel, by decide +kernel⟩
theorem scInitFilled : FnScope ["self", "text"] ["self", "text"] (defScope sInitFilled) := ⟨rfl, rfl, rfl, by decide +kernel, rfl, by decide +kernel, by decide +kernel⟩
theorem scInitEarly : FnScope ["self", "many"] ["self", "many"] (defScope sInitEarly) := ⟨rfl, rfl, rfl, by decide +kernel, rfl, by decide +kernel, by decide +kernel⟩
theorem scInitLate : FnScope ["self", "many"] ["self", "many"] (defScope sInitLate) := ⟨rfl, rfl, rfl, by decide +kernel, rfl, by decide +kernel, by decide +kernel⟩
theorem scInitCheapest : FnScope ["self", "text", "levels"] ["self", "text", "levels"] (defScope sInitCheapest) := ⟨rfl, rfl, rfl, by decide +kernel, rfl, by decide +kernel, by decide +kernel⟩
structure Txt (K : PySem.W.Frag) (mg : Str → Option Value) : Type where
  n_ValueError : mg "ValueError" = none
  n_all : mg "all" = none
  n_bool : mg "bool" = none
  n_enumerate : mg "enumerate" = none
  n_int : mg "int" = none
  n_isinstance : mg "isinstance" = none
  n_len : mg "len" = none
  n_list : mg "list" = none
  n_max : mg "max" = none
  n_min : mg "min" = none
  n_range : mg "range" = none
  n_reversed : mg "reversed" = none
  n_str : mg "str" = none
  n_tuple : mg "tuple" = none
  n_zip : mg "zip" = none
  f_asked_row : DefIn K mg "asked_row" "asked_row" sAskedRow ["row"]
  f_depths_of : DefIn K mg "depths_of" "depths_of" sDepthsOf ["text"]
  f_is_closed : DefIn K mg "is_closed" "is_closed" sIsClosed ["text"]
  f_is_filling : DefIn K mg "is_filling" "is_filling" sIsFilling ["row", "text"]
  f_behind : DefIn K mg "behind" "behind" sBehind ["row"]
  f_asked_filling : DefIn K mg "asked_filling" "asked_filling" sAskedFilling ["row"]
  f_partners : DefIn K mg "partners" "partners" sPartners ["row"]
  f_depths : DefIn K mg "depths" "depths" sDepths ["row"]
  f_is_price : DefIn K mg "is_price" "is_price" sIsPrice ["thing"]
  f_cheapest : DefIn K mg "cheapest" "cheapest" sCheapest ["row", "prices"]
  f_mores_of : DefIn K mg "mores_of" "mores_of" sMoresOf ["row", "prices"]
  f_opened : DefIn K mg "opened" "opened" sOpened ["row", "mores"]
  f_levels_of : DefIn K mg "levels_of" "levels_of" sLevelsOf ["row", "text", "mores"]
  f_table_of : DefIn K mg "table_of" "table_of" sTableOf ["row"]
  f_how_many : DefIn K mg "how_many" "how_many" sHowMany ["row"]
  f_told : DefIn K mg "told" "told" sTold ["row", "number"]
  f_number_of : DefIn K mg "number_of" "number_of" sNumberOf ["row", "text"]
  f_earliest : DefIn K mg "earliest" "earliest" sEarliest ["row"]
  f_filled : DefIn K mg "filled" "filled" sFilled ["row"]
  f_first : DefIn K mg "first" "first" sFirst ["row"]
  f_last : DefIn K mg "last" "last" sLast ["row"]
  f_settled : DefIn K mg "settled" "settled" sSettled ["row"]
  f__law_row_asked : DefIn K mg "_law_row_asked" "_law_row_asked" sLawRowAsked ["_law_which", "_law_more"]
  f__law_none_asked : DefIn K mg "_law_none_asked" "_law_none_asked" sLawNoneAsked ["_law_which", "_law_more"]
  f__law_others_asked : DefIn K mg "_law_others_asked" "_law_others_asked" sLawOthersAsked ["_law_kind", "_law_which", "_law_more"]
  f__law_told : DefIn K mg "_law_told" "_law_told" sLawTold ["_law_kind", "_law_which", "_law_more"]
  c_Answer : Addr
  g_Answer : mg "Answer" = some (.ref c_Answer)
  o_Answer : OwnC K c_Answer
  na_Answer_text : NoAttr K c_Answer "text"
  na_Answer_many : NoAttr K c_Answer "many"
  na_Answer_levels : NoAttr K c_Answer "levels"
  pl_Answer : Mk0 K c_Answer
  c_Filled : Addr
  g_Filled : mg "Filled" = some (.ref c_Filled)
  o_Filled : OwnC K c_Filled
  na_Filled_text : NoAttr K c_Filled "text"
  na_Filled_many : NoAttr K c_Filled "many"
  na_Filled_levels : NoAttr K c_Filled "levels"
  i_Filled : MethIn K "__init__" "Filled.__init__" sInitFilled ["self", "text"]
  mk_Filled : Mk K c_Filled i_Filled.a
  c_Uneven : Addr
  g_Uneven : mg "Uneven" = some (.ref c_Uneven)
  o_Uneven : OwnC K c_Uneven
  na_Uneven_text : NoAttr K c_Uneven "text"
  na_Uneven_many : NoAttr K c_Uneven "many"
  na_Uneven_levels : NoAttr K c_Uneven "levels"
  pl_Uneven : Mk0 K c_Uneven
  c_Early : Addr
  g_Early : mg "Early" = some (.ref c_Early)
  o_Early : OwnC K c_Early
  na_Early_text : NoAttr K c_Early "text"
  na_Early_many : NoAttr K c_Early "many"
  na_Early_levels : NoAttr K c_Early "levels"
  i_Early : MethIn K "__init__" "Early.__init__" sInitEarly ["self", "many"]
  mk_Early : Mk K c_Early i_Early.a
  c_Late : Addr
  g_Late : mg "Late" = some (.ref c_Late)
  o_Late : OwnC K c_Late
  na_Late_text : NoAttr K c_Late "text"
  na_Late_many : NoAttr K c_Late "many"
  na_Late_levels : NoAttr K c_Late "levels"
  i_Late : MethIn K "__init__" "Late.__init__" sInitLate ["self", "many"]
  mk_Late : Mk K c_Late i_Late.a
  c_Cheapest : Addr
  g_Cheapest : mg "Cheapest" = some (.ref c_Cheapest)
  o_Cheapest : OwnC K c_Cheapest
  na_Cheapest_text : NoAttr K c_Cheapest "text"
  na_Cheapest_many : NoAttr K c_Cheapest "many"
  na_Cheapest_levels : NoAttr K c_Cheapest "levels"
  i_Cheapest : MethIn K "__init__" "Cheapest.__init__" sInitCheapest ["self", "text", "levels"]
  mk_Cheapest : Mk K c_Cheapest i_Cheapest.a
  ke_Answer_Answer : PySem.W.kitOne K (.ref c_Answer) (.ref c_Answer) = some true
  ke_Answer_Filled : PySem.W.kitOne K (.ref c_Answer) (.ref c_Filled) = some false
  ke_Answer_Uneven : PySem.W.kitOne K (.ref c_Answer) (.ref c_Uneven) = some false
  ke_Answer_Early : PySem.W.kitOne K (.ref c_Answer) (.ref c_Early) = some false
  ke_Answer_Late : PySem.W.kitOne K (.ref c_Answer) (.ref c_Late) = some false
  ke_Answer_Cheapest : PySem.W.kitOne K (.ref c_Answer) (.ref c_Cheapest) = some false
  ke_Filled_Answer : PySem.W.kitOne K (.ref c_Filled) (.ref c_Answer) = some true
  ke_Filled_Filled : PySem.W.kitOne K (.ref c_Filled) (.ref c_Filled) = some true
  ke_Filled_Uneven : PySem.W.kitOne K (.ref c_Filled) (.ref c_Uneven) = some false
  ke_Filled_Early : PySem.W.kitOne K (.ref c_Filled) (.ref c_Early) = some false
  ke_Filled_Late : PySem.W.kitOne K (.ref c_Filled) (.ref c_Late) = some false
  ke_Filled_Cheapest : PySem.W.kitOne K (.ref c_Filled) (.ref c_Cheapest) = some false
  ke_Uneven_Answer : PySem.W.kitOne K (.ref c_Uneven) (.ref c_Answer) = some true
  ke_Uneven_Filled : PySem.W.kitOne K (.ref c_Uneven) (.ref c_Filled) = some false
  ke_Uneven_Uneven : PySem.W.kitOne K (.ref c_Uneven) (.ref c_Uneven) = some true
  ke_Uneven_Early : PySem.W.kitOne K (.ref c_Uneven) (.ref c_Early) = some false
  ke_Uneven_Late : PySem.W.kitOne K (.ref c_Uneven) (.ref c_Late) = some false
  ke_Uneven_Cheapest : PySem.W.kitOne K (.ref c_Uneven) (.ref c_Cheapest) = some false
  ke_Early_Answer : PySem.W.kitOne K (.ref c_Early) (.ref c_Answer) = some true
  ke_Early_Filled : PySem.W.kitOne K (.ref c_Early) (.ref c_Filled) = some false
  ke_Early_Uneven : PySem.W.kitOne K (.ref c_Early) (.ref c_Uneven) = some false
  ke_Early_Early : PySem.W.kitOne K (.ref c_Early) (.ref c_Early) = some true
  ke_Early_Late : PySem.W.kitOne K (.ref c_Early) (.ref c_Late) = some false
  ke_Early_Cheapest : PySem.W.kitOne K (.ref c_Early) (.ref c_Cheapest) = some false
  ke_Late_Answer : PySem.W.kitOne K (.ref c_Late) (.ref c_Answer) = some true
  ke_Late_Filled : PySem.W.kitOne K (.ref c_Late) (.ref c_Filled) = some false
  ke_Late_Uneven : PySem.W.kitOne K (.ref c_Late) (.ref c_Uneven) = some false
  ke_Late_Early : PySem.W.kitOne K (.ref c_Late) (.ref c_Early) = some false
  ke_Late_Late : PySem.W.kitOne K (.ref c_Late) (.ref c_Late) = some true
  ke_Late_Cheapest : PySem.W.kitOne K (.ref c_Late) (.ref c_Cheapest) = some false
  ke_Cheapest_Answer : PySem.W.kitOne K (.ref c_Cheapest) (.ref c_Answer) = some true
  ke_Cheapest_Filled : PySem.W.kitOne K (.ref c_Cheapest) (.ref c_Filled) = some false
  ke_Cheapest_Uneven : PySem.W.kitOne K (.ref c_Cheapest) (.ref c_Uneven) = some false
  ke_Cheapest_Early : PySem.W.kitOne K (.ref c_Cheapest) (.ref c_Early) = some false
  ke_Cheapest_Late : PySem.W.kitOne K (.ref c_Cheapest) (.ref c_Late) = some false
  ke_Cheapest_Cheapest : PySem.W.kitOne K (.ref c_Cheapest) (.ref c_Cheapest) = some true
  c_BracketError : Addr
  g_BracketError : mg "BracketError" = some (.ref c_BracketError)
  x_BracketError : PySem.W.excIn K c_BracketError [.type "ValueError", .type "Exception", .type "BaseException", .type "object"] "ValueError.__new__" = true
  k_BracketError : PySem.W.keepIn K (.ref c_BracketError) = true
  b_BracketError : PySem.W.subIn K (.ref c_BracketError) (.type "BaseException") = some true
  t_BracketError : PySem.W.typeIn K (.ref c_BracketError) = some (.type "type")
  c_BadRow : Addr
  g_BadRow : mg "BadRow" = some (.ref c_BadRow)
  x_BadRow : PySem.W.excIn K c_BadRow [.type "ValueError", .type "Exception", .type "BaseException", .type "object"] "ValueError.__new__" = true
  k_BadRow : PySem.W.keepIn K (.ref c_BadRow) = true
  b_BadRow : PySem.W.subIn K (.ref c_BadRow) (.type "BaseException") = some true
  t_BadRow : PySem.W.typeIn K (.ref c_BadRow) = some (.type "type")
  c_NoFilling : Addr
  g_NoFilling : mg "NoFilling" = some (.ref c_NoFilling)
  x_NoFilling : PySem.W.excIn K c_NoFilling [.type "ValueError", .type "Exception", .type "BaseException", .type "object"] "ValueError.__new__" = true
  k_NoFilling : PySem.W.keepIn K (.ref c_NoFilling) = true
  b_NoFilling : PySem.W.subIn K (.ref c_NoFilling) (.type "BaseException") = some true
  t_NoFilling : PySem.W.typeIn K (.ref c_NoFilling) = some (.type "type")
  c_BadNumber : Addr
  g_BadNumber : mg "BadNumber" = some (.ref c_BadNumber)
  x_BadNumber : PySem.W.excIn K c_BadNumber [.type "ValueError", .type "Exception", .type "BaseException", .type "object"] "ValueError.__new__" = true
  k_BadNumber : PySem.W.keepIn K (.ref c_BadNumber) = true
  b_BadNumber : PySem.W.subIn K (.ref c_BadNumber) (.type "BaseException") = some true
  t_BadNumber : PySem.W.typeIn K (.ref c_BadNumber) = some (.type "type")
  c_BadText : Addr
  g_BadText : mg "BadText" = some (.ref c_BadText)
  x_BadText : PySem.W.excIn K c_BadText [.type "ValueError", .type "Exception", .type "BaseException", .type "object"] "ValueError.__new__" = true
  k_BadText : PySem.W.keepIn K (.ref c_BadText) = true
  b_BadText : PySem.W.subIn K (.ref c_BadText) (.type "BaseException") = some true
  t_BadText : PySem.W.typeIn K (.ref c_BadText) = some (.type "type")
  c_BadPrices : Addr
  g_BadPrices : mg "BadPrices" = some (.ref c_BadPrices)
  x_BadPrices : PySem.W.excIn K c_BadPrices [.type "ValueError", .type "Exception", .type "BaseException", .type "object"] "ValueError.__new__" = true
  k_BadPrices : PySem.W.keepIn K (.ref c_BadPrices) = true
  b_BadPrices : PySem.W.subIn K (.ref c_BadPrices) (.type "BaseException") = some true
  t_BadPrices : PySem.W.typeIn K (.ref c_BadPrices) = some (.type "type")
  e_BadRow : ExcC K c_BadRow
  i_BadRow_BracketError : PySem.W.kitOne K (.ref c_BadRow) (.ref c_BracketError) = some true
  i_BadRow_BadRow : PySem.W.kitOne K (.ref c_BadRow) (.ref c_BadRow) = some true
  i_BadRow_NoFilling : PySem.W.kitOne K (.ref c_BadRow) (.ref c_NoFilling) = some false
  i_BadRow_BadNumber : PySem.W.kitOne K (.ref c_BadRow) (.ref c_BadNumber) = some false
  i_BadRow_BadText : PySem.W.kitOne K (.ref c_BadRow) (.ref c_BadText) = some false
  i_BadRow_BadPrices : PySem.W.kitOne K (.ref c_BadRow) (.ref c_BadPrices) = some false
  i_BadRow_ValueError : PySem.W.kitOne K (.ref c_BadRow) (.type "ValueError") = some true
  s_BadRow : PySem.W.exmOne K (.ref c_BadRow) (.ref c_BracketError) = some true
  e_NoFilling : ExcC K c_NoFilling
  i_NoFilling_BracketError : PySem.W.kitOne K (.ref c_NoFilling) (.ref c_BracketError) = some true
  i_NoFilling_BadRow : PySem.W.kitOne K (.ref c_NoFilling) (.ref c_BadRow) = some false
  i_NoFilling_NoFilling : PySem.W.kitOne K (.ref c_NoFilling) (.ref c_NoFilling) = some true
  i_NoFilling_BadNumber : PySem.W.kitOne K (.ref c_NoFilling) (.ref c_BadNumber) = some false
  i_NoFilling_BadText : PySem.W.kitOne K (.ref c_NoFilling) (.ref c_BadText) = some false
  i_NoFilling_BadPrices : PySem.W.kitOne K (.ref c_NoFilling) (.ref c_BadPrices) = some false
  i_NoFilling_ValueError : PySem.W.kitOne K (.ref c_NoFilling) (.type "ValueError") = some true
  s_NoFilling : PySem.W.exmOne K (.ref c_NoFilling) (.ref c_BracketError) = some true
  e_BadNumber : ExcC K c_BadNumber
  i_BadNumber_BracketError : PySem.W.kitOne K (.ref c_BadNumber) (.ref c_BracketError) = some true
  i_BadNumber_BadRow : PySem.W.kitOne K (.ref c_BadNumber) (.ref c_BadRow) = some false
  i_BadNumber_NoFilling : PySem.W.kitOne K (.ref c_BadNumber) (.ref c_NoFilling) = some false
  i_BadNumber_BadNumber : PySem.W.kitOne K (.ref c_BadNumber) (.ref c_BadNumber) = some true
  i_BadNumber_BadText : PySem.W.kitOne K (.ref c_BadNumber) (.ref c_BadText) = some false
  i_BadNumber_BadPrices : PySem.W.kitOne K (.ref c_BadNumber) (.ref c_BadPrices) = some false
  i_BadNumber_ValueError : PySem.W.kitOne K (.ref c_BadNumber) (.type "ValueError") = some true
  s_BadNumber : PySem.W.exmOne K (.ref c_BadNumber) (.ref c_BracketError) = some true
  e_BadText : ExcC K c_BadText
  i_BadText_BracketError : PySem.W.kitOne K (.ref c_BadText) (.ref c_BracketError) = some true
  i_BadText_BadRow : PySem.W.kitOne K (.ref c_BadText) (.ref c_BadRow) = some false
  i_BadText_NoFilling : PySem.W.kitOne K (.ref c_BadText) (.ref c_NoFilling) = some false
  i_BadText_BadNumber : PySem.W.kitOne K (.ref c_BadText) (.ref c_BadNumber) = some false
  i_BadText_BadText : PySem.W.kitOne K (.ref c_BadText) (.ref c_BadText) = some true
  i_BadText_BadPrices : PySem.W.kitOne K (.ref c_BadText) (.ref c_BadPrices) = some false
  i_BadText_ValueError : PySem.W.kitOne K (.ref c_BadText) (.type "ValueError") = some true
  s_BadText : PySem.W.exmOne K (.ref c_BadText) (.ref c_BracketError) = some true
  e_BadPrices : ExcC K c_BadPrices
  i_BadPrices_BracketError : PySem.W.kitOne K (.ref c_BadPrices) (.ref c_BracketError) = some true
  i_BadPrices_BadRow : PySem.W.kitOne K (.ref c_BadPrices) (.ref c_BadRow) = some false
  i_BadPrices_NoFilling : PySem.W.kitOne K (.ref c_BadPrices) (.ref c_NoFilling) = some false
  i_BadPrices_BadNumber : PySem.W.kitOne K (.ref c_BadPrices) (.ref c_BadNumber) = some false
  i_BadPrices_BadText : PySem.W.kitOne K (.ref c_BadPrices) (.ref c_BadText) = some false
  i_BadPrices_BadPrices : PySem.W.kitOne K (.ref c_BadPrices) (.ref c_BadPrices) = some true
  i_BadPrices_ValueError : PySem.W.kitOne K (.ref c_BadPrices) (.type "ValueError") = some true
  s_BadPrices : PySem.W.exmOne K (.ref c_BadPrices) (.ref c_BracketError) = some true
local macro_rules | `(tactic| walk_at "sq") => `(tactic| first | exact SqL.of (by assumption) | exact SqL.of upd_same | exact SqT.of (by assumption) | exact SqT.of upd_same | assumption | exact Same.seq (by assumption) (by assumption) | exact Same.seq (Same.trans (by assumption) (by assumption)) (by assumption))
local macro_rules | `(tactic| walk_at "len") => `(tactic| (simp only [List.length_append, List.length_map, List.length_cons, List.length_nil, List.length_set, List.length_replicate, List.length_take, List.length_drop, List.length_reverse, List.length_range, dpi_len, dps_len, len_S]; omega))
local macro_rules | `(tactic| walk_at "g1") => `(tactic| first
  | refine ⟨_, rfl, ?_⟩
  | refine ⟨rfl, ?_⟩
  | refine ⟨_, _, rfl, rfl, @id.{0} _ (by first | decide | omega | exact ⟨by decide, by decide⟩ | exact .inr ⟨by decide, by decide⟩ | (show (0 : Int) < _; decide)), ?_⟩
  | refine ⟨_, _, rfl, rfl, ?_⟩
  | refine ⟨_, _, _, _, rfl, rfl, (by walk_at "sq"), (by first | exact atI_last _ _ | (with_reducible exact atI_nat (by assumption))), ?_⟩
  | refine ⟨.inl ⟨rfl, _, (by walk_at "sq")⟩, ?_⟩
  | refine ⟨_, _, rfl, (by first | exact .inl (by walk_at "sq") | exact .inr (by walk_at "sq")), ?_⟩
  | refine ⟨_, rfl, (by first | exact sz5 (by walk_at "len") | exact szS (by omega)), ?_⟩
  | refine ⟨_, _, _, rfl, rfl, (by assumption), sz5l (by walk_at "len"), ?_⟩)
local macro_rules | `(tactic| walk_at "go") => `(tactic| repeat walk_at "g1")
local macro_rules | `(tactic| walk_at "nxt") => `(tactic| (show tSeq Ends.nx _ _ _ _; refine nx_in ?_))

section
variable {P : Program} {w : World} {K : PySem.W.Frag} {mg : Str → Option Value} {base : Heap}
def spDepthsOf (T : Txt K mg) : Sp := fun vs H Q _ => ∃ l, vs = [S l] ∧ l.length ≤ 90000 ∧ ∀ H' p, Same H H' → H p = none → H' p = some (.lst ((dps 0 l).map V.int)) → Q (.ref p) H'
theorem okDepthsOf (T : Txt K mg) : FnOk P w K mg base CX0 1 T.f_depths_of.a T.f_depths_of.fd ["text"] (spDepthsOf T) := by
  refine T.f_depths_of.F.ok scDepthsOf (fun vs H Q E h => ?_) (fun cdv A outer s H vs Q E hr h => ?_)
  · obtain ⟨l, rfl, _⟩ := h
    rfl
  · obtain ⟨l, rfl, hl, q⟩ := h
    refine ⟨_, (pss_cons (ps_set (i := 1) scDepthsOf.nd rfl (by first | exact Or.inl rfl | exact Or.inr rfl) (pe_lst (pa_cons pe_int pa_nil)))
      (pss_cons (ps_for PassesOwn.never rfl (pi_str (pv 0)) (pg_name (i := 2) scDepthsOf.nd rfl (by first | exact Or.inl rfl | exact Or.inr rfl))
      (pss_one (ps_if (pt_cmpR op_eq (pv 2) pe_str (nomark _)) (pss_one (ps_expr (pe_bm PySem.F.plainAttrs_list PySem.F.slot_list_append PySem.F.type_list_append mt_append (pv 1) (pa_cons (pe_op op_add (pe_ix ix_list (pv 1) (pe_un un_neg pe_int) (fun _ _ => rfl)) pe_int) pa_nil))))
      (pss_one (ps_expr (pe_bm PySem.F.plainAttrs_list PySem.F.slot_list_append PySem.F.type_list_append mt_append (pv 1) (pa_cons (pe_op op_sub (pe_ix ix_list (pv 1) (pe_un un_neg pe_int) (fun _ _ => rfl)) pe_int) pa_nil)))))))
      (pss_one (ps_ret (pv 1))))), ?_⟩
    refine ⟨sz5 (by decide), fun o no => ?_⟩
    refine ⟨_, rfl, _, rfl, for_txt (fun p σ H' => ∃ x, σ = [some (S l), some (.ref o), x] ∧ Same H H' ∧ H' o = some (.lst ((dps 0 p).map V.int)) ∧ p.length ≤ l.length) ⟨none, rfl, Same.new no, upd_same, Nat.zero_le _⟩ ?_ ?_⟩
    · rintro p c r σ H' e ⟨x, rfl, sm, ho, hp⟩
      have hlen : p.length + 1 ≤ l.length := by rw [e]; simp
      rw [show dps 0 p = dpi 0 p ++ [fin 0 p] from rfl, List.map_append] at ho
      refine ⟨_, rfl, rfl, _, rfl, ite2 (fun hc => ?_) (fun hc => ?_)⟩
      all_goals
        rw [d_op, decide_eq_true_eq] at hc
        walk_at "go"
        refine ⟨sm.mut no, ?_, by walk_at "len"⟩
        rw [upd_same, dps_snoc, dst]
        simp [hc, dps]
    · rintro σ H' ⟨x, rfl, sm, ho, _⟩
      exact ⟨_, rfl, q _ _ sm no ho⟩
def spIsClosed (T : Txt K mg) : Sp := fun vs H Q _ => ∃ l, vs = [S l] ∧ l.length ≤ 90000 ∧ ∀ H', Same H H' → Q (.bl (isClosed l)) H'
theorem okIsClosed (T : Txt K mg) : FnOk P w K mg base CX0 5 T.f_is_closed.a T.f_is_closed.fd ["text"] (spIsClosed T) := by
  refine T.f_is_closed.F.ok scIsClosed (fun vs H Q E h => ?_) (fun cdv A outer s H vs Q E hr h => ?_)
  · obtain ⟨l, rfl, _⟩ := h
    rfl
  · obtain ⟨l, rfl, hl, q⟩ := h
    refine ⟨_, (pss_cons (ps_set (i := 1) scIsClosed.nd rfl (by first | exact Or.inl rfl | exact Or.inr rfl) (pe_call (okDepthsOf T) (hr.mono (by decide)) (by rfl) T.f_depths_of.g T.f_depths_of.F.kp T.f_depths_of.b .nil pass0 (pa_cons (pv 0) pa_nil)))
      (pss_one (ps_ret (pe_and (pe_cmpR op_notIn_sign pe_str (pv 0) rfl) (pe_and (pe_cmpR op_ge (pe_callB (cr_min rfl) (by rfl) T.n_min (by decide +kernel) (pa_cons (pv 1) pa_nil)) pe_int (nomark _)) (pe_one (pe_cmpR op_eq (pe_ix ix_list (pv 1) (pe_un un_neg pe_int) (fun _ _ => rfl)) pe_int (nomark _)))))))), ?_⟩
    refine ⟨_, rfl, l, rfl, hl, fun H1 p sm np hp => ?_⟩
    have qb : ∀ b, isClosed l = b → Q (.bl b) H1 := fun b e => e ▸ q H1 sm
    refine ⟨_, rfl, 63, St_ l, congrArg V.str lit_q, rfl, _, rfl, ite2 (fun h1 => ?_) (fun h1 => ?_)⟩
    · have n63 : decide (63 ∉ l) = true := by simpa using h1
      refine ⟨_, rfl, p, dps 0 l, rfl, SqL.of hp, by rw [dps_len]; omega, fun m hm hle => ?_⟩
      refine ⟨_, _, rfl, rfl, _, rfl, ite2 (fun h2 => ?_) (fun h2 => ?_)⟩
      · have hall : (dps 0 l).all (fun d => decide (0 ≤ d)) = true := by
          rw [List.all_eq_true]
          intro x hx
          have := of_decide_eq_true h2
          have := hle x hx
          exact decide_eq_true (by omega)
        rw [show dps 0 l = dpi 0 l ++ [fin 0 l] from rfl, List.map_append] at hp
        walk_at "go"
        refine qb _ ?_
        unfold isClosed
        rw [n63, hall, d_int]
        rfl
      · refine qb _ ?_
        unfold isClosed
        have hall : (dps 0 l).all (fun d => decide (0 ≤ d)) = false := by
          rw [List.all_eq_false]
          exact ⟨m, hm, by simpa using h2⟩
        rw [n63, hall]
        rfl
    · refine qb _ ?_
      unfold isClosed
      have n63 : decide (63 ∉ l) = false := by simpa using h1
      rw [n63]
      rfl
theorem d_row (l : List Nat) : decide (V.str (Txt.stripChars (St_ l) (Str.ofString "()?")) = V.str (Str.ofString "")) = decide (∀ c ∈ l, c ∈ [40, 41, 63]) := by
  rw [lit_ocq, lit_e, decide_eq_decide, ← strip_S]
  exact ⟨V.str.inj, fun h => congrArg V.str h⟩
theorem row_iff (l : List Nat) : (∀ c ∈ l, c ∈ [40, 41, 63]) ↔ IsRow l := by
  unfold IsRow
  simp
/-- a value that is no text -/
def NotS (K : PySem.W.Frag) (H : Hp) (v : V) : Prop := ∃ t, TyX K H v t ∧ PySem.W.kitOne K t (.type "str") = some false
def spAskedRow (T : Txt K mg) : Sp := fun vs H Q E => ∃ v, vs = [v] ∧ ((∃ l, v = S l ∧ l.length ≤ 90000 ∧ (IsRow l → Q .non H) ∧ (¬ IsRow l → E (.ref T.c_BadRow) none H)) ∨ (NotS K H v ∧ E (.ref T.c_BadRow) none H))
theorem okAskedRow (T : Txt K mg) : FnOk P w K mg base (L2N.CX P w) 2 T.f_asked_row.a T.f_asked_row.fd ["row"] (spAskedRow T) := by
  refine T.f_asked_row.F.okXN scAskedRow (fun vs H Q E h => ?_) (fun cdv A outer s H vs Q E hr h => ?_)
  · obtain ⟨v, rfl, _⟩ := h
    rfl
  · obtain ⟨v, rfl, h⟩ := h
    refine ⟨_, (pss_one (ps_if (PW.pt (pw_or (pt_not (pt_val (pe_callB call_isi (by rfl) T.n_isinstance (by decide +kernel) (pa_cons (pv 0) (pa_cons (pe_bltn (v := .ty "str") (by rfl) T.n_str (by decide +kernel) rfl) pa_nil))))) (pw_or1 (pt_cmpR op_ne (pe_bm PySem.F.plainAttrs_str PySem.F.slot_str_strip PySem.F.type_str_strip mt_stripChars (pv 0) (pa_cons pe_str pa_nil)) pe_str (nomark _))))) (pss_one (L2N.ps_raise rfl (L2N.takes_of rfl rfl rfl rfl) (L2N.pmk_own PySem.F.excBase_ValueError T.x_BadRow T.g_BadRow T.k_BadRow (raises_own T.b_BadRow T.t_BadRow) (by rfl))))
      pss_nil)), ?_⟩
    rcases h with ⟨l, rfl, hl, q1, q2⟩ | ⟨⟨t, ht, hk⟩, q⟩
    · refine ⟨_, rfl, _, _, _, _, true, rfl, .ty "str", .base (.str _), kit_ty (by decide +kernel), _, rfl, iteF ?_⟩
      refine ⟨_, rfl, rfl, _, _, rfl, rfl, szS (by omega), rfl, _, rfl, ite2 (fun hc => ?_) (fun hc => ?_)⟩
      · refine q2 fun hr => ?_
        rw [d_row, decide_eq_true ((row_iff l).mpr hr)] at hc
        cases hc
      · refine q1 ((row_iff l).mp ?_)
        rw [d_row] at hc
        exact Classical.byContradiction fun hn => by rw [decide_eq_false hn] at hc; exact hc rfl
    · refine ⟨_, rfl, _, _, _, _, false, rfl, .ty "str", ht, hk, _, rfl, iteT ?_⟩
      exact q
theorem d_oc2 (l : List Nat) : decide (V.str (Txt.stripChars (St_ l) (Str.ofString "()")) = V.str (Str.ofString "")) = decide (∀ c ∈ l, c ∈ [40, 41]) := by
  rw [lit_oc, lit_e, decide_eq_decide, ← strip_S]
  exact ⟨V.str.inj, fun h => congrArg V.str h⟩
theorem fill_no {l t : List Nat} (h : ¬ ∀ c ∈ t, c ∈ [40, 41]) (hr : IsRow t) : isFilling l t = false := by
  unfold isFilling
  rw [show isClosed t = false from ?_, Bool.false_and, Bool.and_false]
  refine Bool.eq_false_iff.mpr fun hc => h fun c hc' => ?_
  have h1 := (isClosed_iff t hr).mp hc
  have h2 := run_br t 0 0 h1 c hc'
  simpa using h2
def spIsFilling (T : Txt K mg) : Sp := fun vs H Q _ => ∃ l t, vs = [S l, S t] ∧ l.length ≤ 90000 ∧ t.length ≤ 90000 ∧ (IsRow t ∨ t.length ≠ l.length) ∧ ∀ H', Same H H' → Q (.bl (isFilling l t)) H'
theorem okIsFilling (T : Txt K mg) : FnOk P w K mg base CX0 6 T.f_is_filling.a T.f_is_filling.fd ["row", "text"] (spIsFilling T) := by
  refine T.f_is_filling.F.ok scIsFilling (fun vs H Q E h => ?_) (fun cdv A outer s H vs Q E hr h => ?_)
  · obtain ⟨l, t, rfl, _⟩ := h
    rfl
  · obtain ⟨l, t, rfl, hl, ht, hrw, q⟩ := h
    refine ⟨_, (pss_cons (ps_if (PW.pt (pw_or (pt_cmpR op_ne (pe_callB call_len_str (by rfl) T.n_len PySem.boot_len (pa_cons (pv 1) pa_nil)) (pe_callB call_len_str (by rfl) T.n_len PySem.boot_len (pa_cons (pv 0) pa_nil)) (nomark _)) (pw_or (pt_cmpR op_ne (pe_bm PySem.F.plainAttrs_str PySem.F.slot_str_strip PySem.F.type_str_strip mt_stripChars (pv 1) (pa_cons pe_str pa_nil)) pe_str (nomark _)) (pw_or1 (pt_not (pt_val (pe_call (okIsClosed T) (hr.mono (by decide)) (by rfl) T.f_is_closed.g T.f_is_closed.F.kp T.f_is_closed.b .nil pass0 (pa_cons (pv 1) pa_nil)))))))) (pss_one (ps_ret pe_bl))
      pss_nil)
      (pss_one (ps_ret (pe_callB (cr_all rfl) (by rfl) T.n_all (by decide +kernel) (pa_cons (pe_lc (own := [("told", 2), ("sign", 3)]) (g := gTup K 2 (gCons (gName 2) (gCons (gName 3) (gNil)))) rfl scIsFilling.nd (pi_zipS (by rfl) T.n_zip (pa_cons (pv 0) (pa_cons (pv 1) pa_nil))) (blkOk_by (own := [("told", 2), ("sign", 3)]) (N := ["row", "text", "told", "sign"]) (sc := defScope sIsFilling) (by decide +kernel)) (fun _ _ _ _ _ => (pg_tup rfl (pgs_cons (pg_name (i := 2) scIsFilling.nd rfl (by first | exact Or.inl rfl | exact Or.inr rfl)) (pgs_cons (pg_name (i := 3) scIsFilling.nd rfl (by first | exact Or.inl rfl | exact Or.inr rfl)) pgs_nil)))) (fun _ _ _ _ _ => pts_nil) (fun _ _ _ _ _ => (pe_or (pe_cmpR op_eq (pv 2) pe_str (nomark _)) (pe_one (pe_cmpR op_eq (pv 2) (pv 3) (nomark _)))))) pa_nil))))), ?_⟩
    have qb : ∀ b H', Same H H' → isFilling l t = b → Q (.bl b) H' := fun b H' s e => e ▸ q H' s
    refine ⟨_, rfl, St_ t, rfl, szS (by omega), _, rfl, St_ l, rfl, szS (by omega), rfl, _, rfl, ite2 (fun hc => ?_) (fun hc => ?_)⟩
    · refine qb _ _ (Same.refl _) ?_
      unfold isFilling
      rw [len_S, len_S, d_int] at hc
      rw [decide_eq_false (fun e => by rw [decide_eq_true (by exact_mod_cast e)] at hc; cases hc), Bool.false_and]
    · rw [len_S, len_S, d_int] at hc
      have hlen : t.length = l.length := Classical.byContradiction fun h => hc (by rw [decide_eq_false (by omega)]; rfl)
      have hrt : IsRow t := hrw.resolve_right (fun h => h hlen)
      refine ⟨_, rfl, rfl, _, _, rfl, rfl, szS (by omega), rfl, _, rfl, ite2 (fun hc2 => ?_) (fun hc2 => ?_)⟩
      · refine qb _ _ (Same.refl _) (fill_no (fun h => ?_) hrt)
        rw [d_oc2, decide_eq_true h] at hc2
        cases hc2
      · refine ⟨_, rfl, t, rfl, ht, fun H1 s1 => ⟨_, rfl, ?_⟩⟩
        cases hcl : isClosed t with
        | false =>
          refine iteT (qb _ _ s1 ?_)
          unfold isFilling
          rw [hcl, Bool.false_and, Bool.and_false]
        | true =>
          refine iteF ?_
          refine ⟨_, rfl, _, rfl, St_ l, St_ t, rfl, fun D hD => lc_zipS (fun c d => .bl (decide (c = 63 ∨ c = d))) hD (by omega) hlen (fun _ _ => rfl) (fun c d H' s' Q q => ?_) fun H2 s2 e2 => ?_⟩
          · refine ⟨_, rfl, rfl, _, rfl, ?_⟩
            rw [d_q]
            by_cases h : c = 63
            · rw [decide_eq_true h]
              refine iteT ?_
              have := q H' (Same.refl _)
              rwa [decide_eq_true (Or.inl h)] at this
            · rw [decide_eq_false h]
              refine iteF ⟨_, rfl, _, rfl, rfl, ?_⟩
              have := q H' (Same.refl _)
              rw [d_ch]
              rwa [show decide (c = 63 ∨ c = d) = decide (c = d) by rw [decide_eq_decide]; exact ⟨fun e => e.resolve_left h, .inr⟩] at this
          · refine ⟨D, (l.zip t).map fun p => decide (p.1 = 63 ∨ p.1 = p.2), rfl, SqL.of (by rw [e2, List.map_map]; rfl), qb _ _ (s1.trans s2) ?_⟩
            unfold isFilling
            rw [all_map_bl, hcl, decide_eq_true hlen, Bool.true_and, Bool.true_and]
            rfl
end
end HT

set_option Elab.async false
set_option linter.all false
set_option maxRecDepth 100000
set_option maxHeartbeats 4000000
namespace HT
open PySem PySem.Spec PyProof.Rows L2 BR
local macro_rules | `(tactic| walk_at "sq") => `(tactic| first | exact SqL.of (by assumption) | exact SqL.of upd_same | exact SqT.of (by assumption) | exact SqT.of upd_same | assumption | exact Same.seq (by assumption) (by assumption) | exact Same.seq (Same.trans (by assumption) (by assumption)) (by assumption))
local macro_rules | `(tactic| walk_at "len") => `(tactic| (simp only [List.length_append, List.length_map, List.length_cons, List.length_nil, List.length_set, List.length_replicate, List.length_take, List.length_drop, List.length_reverse, List.length_range, dpi_len, dps_len, len_S]; omega))
local macro_rules | `(tactic| walk_at "g1") => `(tactic| first
  | refine ⟨_, rfl, ?_⟩
  | refine ⟨rfl, ?_⟩
  | refine ⟨_, _, rfl, rfl, @id.{0} _ (by first | decide | omega | exact ⟨by decide, by decide⟩ | exact .inr ⟨by decide, by decide⟩ | (show (0 : Int) < _; decide)), ?_⟩
  | refine ⟨_, _, rfl, rfl, ?_⟩
  | refine ⟨_, _, _, _, rfl, rfl, (by walk_at "sq"), (by first | exact atI_last _ _ | (with_reducible exact atI_nat (by assumption))), ?_⟩
  | refine ⟨.inl ⟨rfl, _, (by walk_at "sq")⟩, ?_⟩
  | refine ⟨_, _, rfl, (by first | exact .inl (by walk_at "sq") | exact .inr (by walk_at "sq")), ?_⟩
  | refine ⟨_, rfl, (by first | exact sz5 (by walk_at "len") | exact szS (by omega)), ?_⟩
  | refine ⟨_, _, _, rfl, rfl, (by assumption), sz5l (by walk_at "len"), ?_⟩)
local macro_rules | `(tactic| walk_at "go") => `(tactic| repeat walk_at "g1")
local macro_rules | `(tactic| walk_at "nxt") => `(tactic| (show tSeq Ends.nx _ _ _ _; refine nx_in ?_))

section
variable {P : Program} {w : World} {K : PySem.W.Frag} {mg : Str → Option Value} {base : Heap}
def spDepths (T : Txt K mg) : Sp := fun vs H Q E => ∃ v, vs = [v] ∧ ((∃ l, v = S l ∧ l.length ≤ 90000 ∧ (¬ IsRow l → E (.ref T.c_BadRow) none H) ∧ (IsRow l → isClosed l = false → ∀ H', Same H H' → E (.ref T.c_NoFilling) none H') ∧
  (IsRow l → isClosed l = true → ∀ H' p, Same H H' → H p = none → H' p = some (.lst ((dps 0 l).map V.int)) → Q (.ref p) H')) ∨ (NotS K H v ∧ E (.ref T.c_BadRow) none H))
theorem okDepths (T : Txt K mg) : FnOk P w K mg base (L2N.CX P w) 6 T.f_depths.a T.f_depths.fd ["row"] (spDepths T) := by
  refine T.f_depths.F.okXN scDepths (fun vs H Q E h => ?_) (fun cdv A outer s H vs Q E hr h => ?_)
  · obtain ⟨v, rfl, _⟩ := h
    rfl
  · obtain ⟨v, rfl, h⟩ := h
    refine ⟨_, (pss_cons (ps_expr (pe_call (okAskedRow T) (hr.mono (by decide)) (by rfl) T.f_asked_row.g T.f_asked_row.F.kp T.f_asked_row.b .nil (L2N.passes_call (L2N.takes_of rfl rfl rfl rfl) (fun _ _ _ _ h => h)) (pa_cons (pv 0) pa_nil)))
      (pss_cons (ps_if (pt_not (pt_val (pe_call (okIsClosed T) (hr.mono (by decide)) (by rfl) T.f_is_closed.g T.f_is_closed.F.kp T.f_is_closed.b .nil pass0 (pa_cons (pv 0) pa_nil)))) (pss_one (L2N.ps_raise rfl (L2N.takes_of rfl rfl rfl rfl) (L2N.pmk_own PySem.F.excBase_ValueError T.x_NoFilling T.g_NoFilling T.k_NoFilling (raises_own T.b_NoFilling T.t_NoFilling) (by rfl))))
      pss_nil)
      (pss_one (ps_ret (pe_call (okDepthsOf T) (hr.mono (by decide)) (by rfl) T.f_depths_of.g T.f_depths_of.F.kp T.f_depths_of.b .nil pass0 (pa_cons (pv 0) pa_nil)))))), ?_⟩
    rcases h with ⟨l, rfl, hl, q1, q2, q3⟩ | ⟨hn, q⟩
    · refine ⟨_, rfl, S l, rfl, .inl ⟨l, rfl, hl, fun hr => ?_, q1⟩⟩
      refine ⟨_, rfl, l, rfl, hl, fun H1 sm => ?_⟩
      refine ⟨_, rfl, ?_⟩
      cases hc : isClosed l with
      | true => exact iteF ⟨_, rfl, l, rfl, hl, fun H2 p s2 np hp => q3 hr hc _ _ (sm.trans s2) (sm.free np) hp⟩
      | false => exact iteT (q2 hr hc H1 sm)
    · exact ⟨_, rfl, v, rfl, .inr ⟨hn, q⟩⟩
def spPartners (T : Txt K mg) : Sp := fun vs H Q E => ∃ v, vs = [v] ∧ ((∃ l, v = S l ∧ l.length ≤ 90000 ∧ (¬ IsRow l → E (.ref T.c_BadRow) none H) ∧ (IsRow l → isClosed l = false → ∀ H', Same H H' → E (.ref T.c_NoFilling) none H') ∧
  (IsRow l → isClosed l = true → ∀ H' p f, PM l f → Same H H' → H p = none → H' p = some (.lst (f.map V.int)) → Q (.ref p) H')) ∨ (NotS K H v ∧ E (.ref T.c_BadRow) none H))
theorem okPartners (T : Txt K mg) : FnOk P w K mg base (L2N.CX P w) 6 T.f_partners.a T.f_partners.fd ["row"] (spPartners T) := by
  refine T.f_partners.F.okXN scPartners (fun vs H Q E h => ?_) (fun cdv A outer s H vs Q E hr h => ?_)
  · obtain ⟨v, rfl, _⟩ := h
    rfl
  · obtain ⟨v, rfl, h⟩ := h
    refine ⟨_, (pss_cons (ps_expr (pe_call (okAskedRow T) (hr.mono (by decide)) (by rfl) T.f_asked_row.g T.f_asked_row.F.kp T.f_asked_row.b .nil (L2N.passes_call (L2N.takes_of rfl rfl rfl rfl) (fun _ _ _ _ h => h)) (pa_cons (pv 0) pa_nil)))
      (pss_cons (ps_if (pt_not (pt_val (pe_call (okIsClosed T) (hr.mono (by decide)) (by rfl) T.f_is_closed.g T.f_is_closed.F.kp T.f_is_closed.b .nil pass0 (pa_cons (pv 0) pa_nil)))) (pss_one (L2N.ps_raise rfl (L2N.takes_of rfl rfl rfl rfl) (L2N.pmk_own PySem.F.excBase_ValueError T.x_NoFilling T.g_NoFilling T.k_NoFilling (raises_own T.b_NoFilling T.t_NoFilling) (by rfl))))
      pss_nil)
      (PSs.nox (pss_cons (ps_set (i := 1) scPartners.nd rfl (by first | exact Or.inl rfl | exact Or.inr rfl) (pe_lst pa_nil))
      (pss_cons (ps_setLc (i := 2) (own := [("sign", 3)]) rfl scPartners.nd rfl rfl (sw_true rfl rfl rfl (by decide +kernel)) (pi_str (pv 0)) (blkOk_by (own := [("sign", 3)]) (N := ["row", "open_at", "found", "sign", "place", "other"]) (sc := defScope sPartners) (by decide +kernel)) (fun _ _ _ _ _ => (pg_name (i := 3) scPartners.nd rfl (by first | exact Or.inl rfl | exact Or.inr rfl))) (fun _ _ _ _ _ => pts_nil) (fun _ _ _ _ _ => pe_int))
      (pss_cons (ps_for PassesOwn.never rfl (pi_enumS (by rfl) T.n_enumerate (pa_cons (pv 0) pa_nil)) (pg_tup rfl (pgs_cons (pg_name (i := 4) scPartners.nd rfl (by first | exact Or.inl rfl | exact Or.inr rfl)) (pgs_cons (pg_name (i := 3) scPartners.nd rfl (by first | exact Or.inl rfl | exact Or.inr rfl)) pgs_nil)))
      (pss_one (ps_if (pt_cmpR op_eq (pv 3) pe_str (nomark _)) (pss_one (ps_expr (pe_bm PySem.F.plainAttrs_list PySem.F.slot_list_append PySem.F.type_list_append mt_append (pv 1) (pa_cons (pv 4) pa_nil))))
      (pss_cons (ps_set (i := 5) scPartners.nd rfl (by first | exact Or.inl rfl | exact Or.inr rfl) (pe_bm0 PySem.F.plainAttrs_list PySem.F.slot_list_pop PySem.F.type_list_pop mt_pop (pv 1)))
      (pss_cons (ps_asg (pv 5) (pg_sub (pv 2) (pv 4) set_list))
      (pss_one (ps_asg (pv 4) (pg_sub (pv 2) (pv 5) set_list))))))))
      (pss_one (ps_ret (pv 2))))))))), ?_⟩
    rcases h with ⟨l, rfl, hl, q1, q2, q3⟩ | ⟨hn, q⟩
    · refine ⟨_, rfl, S l, rfl, .inl ⟨l, rfl, hl, fun hr => ?_, q1⟩⟩
      refine ⟨_, rfl, l, rfl, hl, fun H1 sm => ?_⟩
      refine ⟨_, rfl, ?_⟩
      cases hc : isClosed l with
      | false => exact iteT (q2 hr hc H1 sm)
      | true =>
        refine iteF ⟨Nat.zero_le _, fun o1 n1 => ?_⟩
        have hrun := (isClosed_iff l hr).mp hc
        refine ⟨_, rfl, _, rfl, fun o2 n2 => lc_txtY (fun _ => .int 0) n2 (by omega) (fun _ => rfl) (fun c H' _ _ Q q => q _ (Same.refl _)) fun H2 s2 e2 => ?_⟩
        have h1 : H2 o1 = some (.lst []) := s2 _ _ upd_same
        have ne : o1 ≠ o2 := ne_of_none upd_same n2
        have n0 : H1 o2 = none := (Same.new n1).free n2
        refine ⟨_, rfl, _, rfl, for_enS (fun p σ H' => ∃ x3 x4 x5 s f, σ = [some (S l), some (.ref o1), some (.ref o2), x3, x4, x5] ∧ Same H1 H' ∧ H' o1 = some (.lst (s.map fun n : Nat => V.int n)) ∧ H' o2 = some (.lst (f.map V.int)) ∧ PI l p.length s f ∧ s.length ≤ p.length)
          ⟨_, _, _, [], List.replicate l.length 0, rfl, (Same.new n1).trans s2, h1, by rw [e2, map_k]; simp, PI.start l _ (by simp), Nat.le_refl _⟩ ?_ ?_⟩
        · rintro p c r σ H3 H4 e ⟨x3, x4, x5, s, f, rfl, sm3, g1, g2, pi, hs⟩ s34
          have hi : l[p.length]? = some c := by rw [e, List.getElem?_append_right (Nat.le_refl _), Nat.sub_self]; rfl
          have hil := (List.getElem?_eq_some_iff.mp hi).1
          have g1' := s34 _ _ g1
          have g2' := s34 _ _ g2
          have sm4 := sm3.trans s34
          refine ⟨_, rfl, rfl, _, rfl, ite2 (fun h4 => ?_) (fun h4 => ?_)⟩
          · rw [d_op, decide_eq_true_eq] at h4
            subst h4
            walk_at "go"
            refine ⟨_, _, _, s ++ [p.length], f, rfl, sm4.mut n1, ?_, ?_, ?_, by walk_at "len"⟩
            · rw [upd_same, List.map_append]; rfl
            · rw [upd_ne ne.symm]; exact g2'
            · rw [List.length_append]; exact pi.openS hi
          · rw [d_op, decide_eq_true_eq] at h4
            obtain ⟨s', o, rfl, hol, hoi⟩ := pi.top hi h4 hrun
            have hfl := pi.len
            refine ⟨_, rfl, .inl ⟨rfl, _, SqL.of g1'⟩, _, _, .int o, rfl, rfl, g1', by simp, ?_⟩
            rw [List.map_append, List.map_cons, List.map_nil, List.dropLast_concat]
            have g2'' : (upd H4 o1 (HO.lst (s'.map fun n : Nat => V.int n))) o2 = some (.lst (f.map V.int)) := by rw [upd_ne ne.symm]; exact g2'
            refine ⟨_, rfl, _, rfl, _, rfl, o2, _, _, p.length, rfl, rfl, g2'', ixN_nat (by rw [List.length_map]; omega), ?_⟩
            refine ⟨_, rfl, _, rfl, _, rfl, o2, _, _, o, rfl, rfl, upd_same, ixN_nat (by rw [List.length_set, List.length_map]; omega), ?_⟩
            refine ⟨_, _, _, s', (f.set p.length (o : Int)).set o (p.length : Int), rfl, ?_, ?_, ?_, ?_, ?_⟩
            · exact ((sm4.mut n1).mut n0).mut n0
            · rw [upd_ne ne, upd_ne ne, upd_same]
            · rw [upd_same, List.map_set, List.map_set]
            · rw [List.length_append]; exact pi.closeS hi h4
            · rw [List.length_append] at hs ⊢; simp at hs ⊢; omega
        · rintro σ H3 ⟨x3, x4, x5, s, f, rfl, sm3, g1, g2, pi, hs⟩
          exact ⟨_, rfl, q3 hr hc _ _ f (pi.done hrun) (sm.trans sm3) (sm.free n0) g2⟩
    · exact ⟨_, rfl, v, rfl, .inr ⟨hn, q⟩⟩
end
end HT

set_option Elab.async false
set_option linter.all false
set_option maxRecDepth 100000
set_option maxHeartbeats 4000000
namespace HT
open PySem PySem.Spec PyProof.Rows L2 BR
local macro_rules | `(tactic| walk_at "sq") => `(tactic| first | exact SqL.of (by assumption) | exact SqL.of upd_same | exact SqT.of (by assumption) | exact SqT.of upd_same | assumption | exact Same.seq (by assumption) (by assumption) | exact Same.seq (Same.trans (by assumption) (by assumption)) (by assumption))
local macro_rules | `(tactic| walk_at "len") => `(tactic| (simp only [List.length_append, List.length_map, List.length_cons, List.length_nil, List.length_set, List.length_replicate, List.length_take, List.length_drop, List.length_reverse, List.length_range, dpi_len, dps_len, len_S]; omega))
local macro_rules | `(tactic| walk_at "g1") => `(tactic| first
  | refine ⟨_, rfl, ?_⟩
  | refine ⟨rfl, ?_⟩
  | refine ⟨_, _, rfl, rfl, @id.{0} _ (by first | decide | omega | exact ⟨by decide, by decide⟩ | exact .inr ⟨by decide, by decide⟩ | (show (0 : Int) < _; decide)), ?_⟩
  | refine ⟨_, _, rfl, rfl, ?_⟩
  | refine ⟨_, _, _, _, rfl, rfl, (by walk_at "sq"), (by first | exact atI_last _ _ | (with_reducible exact atI_nat (by assumption))), ?_⟩
  | refine ⟨.inl ⟨rfl, _, (by walk_at "sq")⟩, ?_⟩
  | refine ⟨_, _, rfl, (by first | exact .inl (by walk_at "sq") | exact .inr (by walk_at "sq")), ?_⟩
  | refine ⟨_, rfl, (by first | exact sz5 (by walk_at "len") | exact szS (by omega)), ?_⟩
  | refine ⟨_, _, _, rfl, rfl, (by assumption), sz5l (by walk_at "len"), ?_⟩)
local macro_rules | `(tactic| walk_at "go") => `(tactic| repeat walk_at "g1")
local macro_rules | `(tactic| walk_at "nxt") => `(tactic| (show tSeq Ends.nx _ _ _ _; refine nx_in ?_))

section
variable {P : Program} {w : World} {K : PySem.W.Frag} {mg : Str → Option Value} {base : Heap}
/-- what an answer holds -/
abbrev fdText (t : List Nat) : List (Str × V) := putF "text" (S t) []
abbrev fdMany (m : Nat) : List (Str × V) := putF "many" (.int (m : Nat)) []
theorem lk1 (f : Str) (v : V) : (putF f v []).lookup f = some v := by
  rw [lookup_putF, if_pos rfl]
theorem lkn {f g : Str} (v : V) (h : g ≠ f) : (putF f v []).lookup g = none := by
  rw [lookup_putF, if_neg h]; rfl
def closesTooMuch (l : List Nat) (m : Int) : Bool := decide (0 ≤ m ∧ m ≤ l.length) && decide (2 * ((l.take m.toNat).count 41 : Int) > m)
def opensTooMuch (l : List Nat) (m : Int) : Bool := decide (0 ≤ m ∧ m ≤ l.length) && decide (2 * ((l.drop (l.length - m.toNat)).count 40 : Int) > m)
def spInitFilled (T : Txt K mg) : Sp := fun vs H Q _ => ∃ (p dx : Addr) (v : V), vs = [.ref p, v] ∧ H p = some (.ins T.c_Filled dx []) ∧ Q .non (upd H p (.ins T.c_Filled dx (putF "text" v [])))
theorem okInitFilled (T : Txt K mg) : FnOk P w K mg base CX0 1 T.i_Filled.a T.i_Filled.fd ["self", "text"] (spInitFilled T) := by
  refine T.i_Filled.F.ok scInitFilled (fun vs H Q E h => ?_) (fun cdv A outer s H vs Q E hr h => ?_)
  · obtain ⟨p, dx, v, rfl, _⟩ := h
    rfl
  · obtain ⟨p, dx, v, rfl, hp, q⟩ := h
    refine ⟨_, (pss_one (ps_fld (pv 0) (pv 1) rfl)), ?_⟩
    exact ⟨_, rfl, _, rfl, p, T.c_Filled, dx, _, rfl, hp, T.o_Filled.cl, T.na_Filled_text, by decide, q⟩
def spInitEarly (T : Txt K mg) : Sp := fun vs H Q _ => ∃ (p dx : Addr) (v : V), vs = [.ref p, v] ∧ H p = some (.ins T.c_Early dx []) ∧ Q .non (upd H p (.ins T.c_Early dx (putF "many" v [])))
theorem okInitEarly (T : Txt K mg) : FnOk P w K mg base CX0 1 T.i_Early.a T.i_Early.fd ["self", "many"] (spInitEarly T) := by
  refine T.i_Early.F.ok scInitEarly (fun vs H Q E h => ?_) (fun cdv A outer s H vs Q E hr h => ?_)
  · obtain ⟨p, dx, v, rfl, _⟩ := h
    rfl
  · obtain ⟨p, dx, v, rfl, hp, q⟩ := h
    refine ⟨_, (pss_one (ps_fld (pv 0) (pv 1) rfl)), ?_⟩
    exact ⟨_, rfl, _, rfl, p, T.c_Early, dx, _, rfl, hp, T.o_Early.cl, T.na_Early_many, by decide, q⟩
def spInitLate (T : Txt K mg) : Sp := fun vs H Q _ => ∃ (p dx : Addr) (v : V), vs = [.ref p, v] ∧ H p = some (.ins T.c_Late dx []) ∧ Q .non (upd H p (.ins T.c_Late dx (putF "many" v [])))
theorem okInitLate (T : Txt K mg) : FnOk P w K mg base CX0 1 T.i_Late.a T.i_Late.fd ["self", "many"] (spInitLate T) := by
  refine T.i_Late.F.ok scInitLate (fun vs H Q E h => ?_) (fun cdv A outer s H vs Q E hr h => ?_)
  · obtain ⟨p, dx, v, rfl, _⟩ := h
    rfl
  · obtain ⟨p, dx, v, rfl, hp, q⟩ := h
    refine ⟨_, (pss_one (ps_fld (pv 0) (pv 1) rfl)), ?_⟩
    exact ⟨_, rfl, _, rfl, p, T.c_Late, dx, _, rfl, hp, T.o_Late.cl, T.na_Late_many, by decide, q⟩
inductive Ans where
  | filled (t : List Nat)
  | uneven
  | early (m : Nat)
  | late (m : Nat)
def AnsAt (T : Txt K mg) (H : Hp) (x : Addr) : Ans → Prop
  | .filled t => ∃ dx, H x = some (.ins T.c_Filled dx (fdText t))
  | .uneven => ∃ dx, H x = some (.ins T.c_Uneven dx [])
  | .early m => ∃ dx, H x = some (.ins T.c_Early dx (fdMany m))
  | .late m => ∃ dx, H x = some (.ins T.c_Late dx (fdMany m))
def ansSays (l : List Nat) : Ans → Bool
  | .filled t => isFilling l t
  | .uneven => decide (l.length % 2 = 1)
  | .early m => closesTooMuch l m
  | .late m => opensTooMuch l m
def ansFit : Ans → Prop
  | .filled t => IsRow t ∧ t.length ≤ 90000
  | _ => True
theorem AnsAt.keep {T : Txt K mg} {H H' : Hp} {x : Addr} {a : Ans} (h : AnsAt T H x a) (s : Same H H') : AnsAt T H' x a := by
  cases a <;> (obtain ⟨dx, h⟩ := h; exact ⟨dx, s _ _ h⟩)
def spEarliest (T : Txt K mg) : Sp := fun vs H Q _ => ∃ l, vs = [S l] ∧ l.length ≤ 90000 ∧ 2 * l.count 40 ≤ l.length ∧ ∀ H', Same H H' → Q (S (fillE (l.length / 2 - l.count 40) l)) H'
theorem okEarliest (T : Txt K mg) : FnOk P w K mg base CX0 1 T.f_earliest.a T.f_earliest.fd ["row"] (spEarliest T) := by
  refine T.f_earliest.F.ok scEarliest (fun vs H Q E h => ?_) (fun cdv A outer s H vs Q E hr h => ?_)
  · obtain ⟨l, rfl, _⟩ := h
    rfl
  · obtain ⟨l, rfl, hl, h2, q⟩ := h
    refine ⟨_, (pss_cons (ps_set (i := 1) scEarliest.nd rfl (by first | exact Or.inl rfl | exact Or.inr rfl) (pe_op op_sub (pe_op op_fdiv (pe_callB call_len_str (by rfl) T.n_len PySem.boot_len (pa_cons (pv 0) pa_nil)) pe_int) (pe_bm PySem.F.plainAttrs_str PySem.F.slot_str_count PySem.F.type_str_count mt_count (pv 0) (pa_cons pe_str pa_nil))))
      (pss_cons (ps_set (i := 2) scEarliest.nd rfl (by first | exact Or.inl rfl | exact Or.inr rfl) (pe_lst pa_nil))
      (pss_cons (ps_for PassesOwn.never rfl (pi_str (pv 0)) (pg_name (i := 3) scEarliest.nd rfl (by first | exact Or.inl rfl | exact Or.inr rfl))
      (pss_one (ps_if (PW.pt (pw_and (pt_cmpR op_eq (pv 3) pe_str (nomark _)) (pw_and1 (pt_cmpR op_gt (pv 1) pe_int (nomark _))))) (pss_cons (ps_expr (pe_bm PySem.F.plainAttrs_list PySem.F.slot_list_append PySem.F.type_list_append mt_append (pv 2) (pa_cons pe_str pa_nil)))
      (pss_one (ps_set (i := 1) scEarliest.nd rfl (by first | exact Or.inl rfl | exact Or.inr rfl) (pe_op op_sub (pv 1) pe_int))))
      (pss_one (ps_if (pt_cmpR op_eq (pv 3) pe_str (nomark _)) (pss_one (ps_expr (pe_bm PySem.F.plainAttrs_list PySem.F.slot_list_append PySem.F.type_list_append mt_append (pv 2) (pa_cons pe_str pa_nil))))
      (pss_one (ps_expr (pe_bm PySem.F.plainAttrs_list PySem.F.slot_list_append PySem.F.type_list_append mt_append (pv 2) (pa_cons (pv 3) pa_nil)))))))))
      (pss_one (ps_ret (pe_join pe_str (pv 2))))))), ?_⟩
    obtain ⟨k, hk⟩ : ∃ k, k = l.length / 2 - l.count 40 := ⟨_, rfl⟩
    rw [← hk] at q
    have e40 : (Str.ofString "(") = (⟨#[40]⟩ : Str) := by decide +kernel
    refine sq_set (.int (k : Int)) (fun Q q => ?_) ?_
    · refine ⟨_, rfl, St_ l, rfl, szS (by omega), _, _, rfl, rfl, ⟨by decide, by decide⟩, _, rfl, rfl, _, _, rfl, rfl, _, _, rfl, rfl, ?_⟩
      have e : ((St_ l).length : Int) / 2 - Txt.count (St_ l) (Str.ofString "(") = (k : Int) := by rw [e40, count_S, len_S, hk]; omega
      show Q (.int (((St_ l).length : Int) / 2 - Txt.count (St_ l) (Str.ofString "("))) H
      rw [e]
      exact q
    refine ⟨Nat.zero_le _, fun o no => ?_⟩
    refine ⟨_, rfl, _, rfl, for_txt (l := l) (fun p σ H' => ∃ x, σ = [some (S l), some (.int ((k - p.count 63 : Nat) : Int)), some (.ref o), x] ∧ Same H H' ∧ H' o = some (.lst ((fillE k p).map ch)) ∧ p.length ≤ l.length) ⟨none, rfl, Same.new no, upd_same, Nat.zero_le _⟩ ?_ ?_⟩
    · rintro p c r σ H' e ⟨x, rfl, sm, ho, hp⟩
      have hlen : p.length + 1 ≤ l.length := by rw [e]; simp
      have hfl := fillE_len p k
      refine ⟨_, rfl, rfl, _, rfl, ?_⟩
      rw [d_q]
      by_cases hc : c = 63
      · subst hc
        refine iteT ⟨_, rfl, _, _, rfl, rfl, _, rfl, ite2 (fun h => ?_) (fun h => ?_)⟩
        · have h : (0 : Int) < ((k - p.count 63 : Nat) : Int) := of_decide_eq_true h
          refine ⟨_, rfl, .inl ⟨rfl, _, SqL.of ho⟩, _, _, _, rfl, rfl, ho, sz5l (by walk_at "len"), ?_⟩
          refine ⟨_, rfl, _, _, rfl, rfl, some (ch 63), ?_, sm.mut no, ?_, by walk_at "len"⟩
          · have ez : ((k - p.count 63 : Nat) : Int) - 1 = ((k - (p ++ [63]).count 63 : Nat) : Int) := by
              rw [List.count_append]
              simp
              omega
            show [some (S l), some (V.int (((k - p.count 63 : Nat) : Int) - 1)), some (V.ref o), _] = _
            rw [ez]
          · rw [upd_same, fillE_snoc, List.map_append, if_pos rfl, if_pos (by omega), lit_op]; rfl
        · have h : ¬ (0 : Int) < ((k - p.count 63 : Nat) : Int) := fun hh => h (decide_eq_true hh)
          refine ⟨_, rfl, rfl, _, rfl, ?_⟩
          rw [d_q]
          refine iteT ⟨_, rfl, .inl ⟨rfl, _, SqL.of ho⟩, _, _, _, rfl, rfl, ho, sz5l (by walk_at "len"), some (ch 63), ?_, sm.mut no, ?_, by walk_at "len"⟩
          · have ez : k - p.count 63 = k - (p ++ [63]).count 63 := by
              rw [List.count_append]
              simp
              omega
            rw [← ez]
            rfl
          · rw [upd_same, fillE_snoc, List.map_append, if_pos rfl, if_neg (by omega), lit_cl]; rfl
      · rw [decide_eq_false hc]
        refine iteF ⟨_, rfl, rfl, _, rfl, ?_⟩
        rw [d_q, decide_eq_false hc]
        refine iteF ⟨_, rfl, .inl ⟨rfl, _, SqL.of ho⟩, _, rfl, _, _, _, rfl, rfl, ho, sz5l (by walk_at "len"), some (ch c), ?_, sm.mut no, ?_, by walk_at "len"⟩
        · have ez : p.count 63 = (p ++ [c]).count 63 := by
            rw [List.count_append]
            simp [List.count_cons, hc]
          rw [← ez]
          rfl
        · rw [upd_same, fillE_snoc, List.map_append, if_neg hc]; rfl
    · rintro σ H' ⟨x, rfl, sm, ho, hp⟩
      exact ⟨⟨_, rfl⟩, _, rfl, join_rd (SqL.of ho) (by rw [fillE_len]; omega) (q _ sm)⟩
def spFilled (T : Txt K mg) : Sp := fun vs H Q E => ∃ v, vs = [v] ∧ ((∃ l, v = S l ∧ l.length ≤ 80000 ∧ (¬ IsRow l → E (.ref T.c_BadRow) none H) ∧
  (IsRow l → ∀ H' x a, AnsAt T H' x a → ansFit a → ansSays l a = true → (l = [] → ∃ t, a = .filled t) → Same H H' → H x = none → Q (.ref x) H')) ∨ (NotS K H v ∧ E (.ref T.c_BadRow) none H))
theorem okFilled (T : Txt K mg) : FnOk P w K mg base (L2N.CX P w) 3 T.f_filled.a T.f_filled.fd ["row"] (spFilled T) := by
  refine T.f_filled.F.okXN scFilled (fun vs H Q E h => ?_) (fun cdv A outer s H vs Q E hr h => ?_)
  · obtain ⟨v, rfl, _⟩ := h
    rfl
  · obtain ⟨v, rfl, h⟩ := h
    refine ⟨_, (pss_cons (ps_expr (pe_call (okAskedRow T) (hr.mono (by decide)) (by rfl) T.f_asked_row.g T.f_asked_row.F.kp T.f_asked_row.b .nil (L2N.passes_call (L2N.takes_of rfl rfl rfl rfl) (fun _ _ _ _ h => h)) (pa_cons (pv 0) pa_nil)))
      (PSs.nox (pss_cons (ps_if (pt_cmpR op_eq (pe_op op_mod (pe_callB call_len_str (by rfl) T.n_len PySem.boot_len (pa_cons (pv 0) pa_nil)) pe_int) pe_int (nomark _)) (pss_one (ps_ret (pe_makePlain T.pl_Uneven (by rfl) T.g_Uneven)))
      pss_nil)
      (pss_cons (ps_for PassesOwn.never rfl (pi_range2 (by rfl) T.n_range (pa_cons pe_int (pa_cons (pe_op op_add (pe_callB call_len_str (by rfl) T.n_len PySem.boot_len (pa_cons (pv 0) pa_nil)) pe_int) pa_nil))) (pg_name (i := 1) scFilled.nd rfl (by first | exact Or.inl rfl | exact Or.inr rfl))
      (pss_one (ps_if (pt_cmpR op_gt (pe_op op_mul pe_int (pe_bm PySem.F.plainAttrs_str PySem.F.slot_str_count PySem.F.type_str_count mt_count (pe_slice sl_str (pv 0) po_none (po_some (pv 1))) (pa_cons pe_str pa_nil))) (pv 1) (nomark _)) (pss_one (ps_ret (pe_make T.mk_Early (okInitEarly T) (hr.mono (by decide)) (by rfl) T.g_Early T.i_Early.b .nil pass0 (pa_cons (pv 1) pa_nil))))
      pss_nil)))
      (pss_cons (ps_for PassesOwn.never rfl (pi_range2 (by rfl) T.n_range (pa_cons pe_int (pa_cons (pe_op op_add (pe_callB call_len_str (by rfl) T.n_len PySem.boot_len (pa_cons (pv 0) pa_nil)) pe_int) pa_nil))) (pg_name (i := 1) scFilled.nd rfl (by first | exact Or.inl rfl | exact Or.inr rfl))
      (pss_one (ps_if (pt_cmpR op_gt (pe_op op_mul pe_int (pe_bm PySem.F.plainAttrs_str PySem.F.slot_str_count PySem.F.type_str_count mt_count (pe_slice sl_str (pv 0) (po_some (pe_op op_sub (pe_callB call_len_str (by rfl) T.n_len PySem.boot_len (pa_cons (pv 0) pa_nil)) (pv 1))) po_none) (pa_cons pe_str pa_nil))) (pv 1) (nomark _)) (pss_one (ps_ret (pe_make T.mk_Late (okInitLate T) (hr.mono (by decide)) (by rfl) T.g_Late T.i_Late.b .nil pass0 (pa_cons (pv 1) pa_nil))))
      pss_nil)))
      (pss_one (ps_ret (pe_make T.mk_Filled (okInitFilled T) (hr.mono (by decide)) (by rfl) T.g_Filled T.i_Filled.b .nil pass0 (pa_cons (pe_call (okEarliest T) (hr.mono (by decide)) (by rfl) T.f_earliest.g T.f_earliest.F.kp T.f_earliest.b .nil pass0 (pa_cons (pv 0) pa_nil)) pa_nil))))))))), ?_⟩
    rcases h with ⟨l, rfl, hl, q1, q2⟩ | ⟨hn, q⟩
    · refine ⟨_, rfl, S l, rfl, .inl ⟨l, rfl, by omega, fun hrw => ?_, q1⟩⟩
      have q := q2 hrw
      refine ⟨_, rfl, St_ l, rfl, szS (by omega), _, _, rfl, rfl, (show (0 : Int) < 2 by decide), rfl, _, rfl, ?_⟩
      rw [d_int, len_S]
      by_cases he : l.length % 2 = 1
      · rw [decide_eq_true (by omega)]
        refine iteT fun x dx nx ndx ne => ?_
        refine q _ x .uneven ⟨dx, upd_same⟩ trivial (decide_eq_true he) (fun e => by rw [e] at he; cases he) ?_ nx
        exact (Same.new ndx).trans (Same.new (by rw [upd_ne ne.symm]; exact nx))
      · rw [decide_eq_false (by omega)]
        refine iteF ?_
        refine ⟨_, rfl, St_ l, rfl, szS (by omega), _, _, rfl, rfl, ?_⟩
        have er : (((St_ l).length : Int) + 1 - 1).toNat = l.length := by rw [len_S]; omega
        have e41 : (Str.ofString ")") = (⟨#[41]⟩ : Str) := by decide +kernel
        have e40 : (Str.ofString "(") = (⟨#[40]⟩ : Str) := by decide +kernel
        have sm3 : ∀ {H1 : Hp} {x dx : Addr} {o1 o2 o3 : HO}, Same H H1 → H1 x = none → H1 dx = none → Same H (upd (upd (upd H1 dx o1) x o2) x o3) := fun s nx ndx => ((s.mut (s.free ndx)).mut (s.free nx)).mut (s.free nx)
        refine ⟨_, _, rfl, (by rw [len_S]; omega), ?_⟩
        rw [er]
        refine for_range (lo := 1) (n := l.length) (fun i σ H' => ∃ x, σ = [some (S l), x] ∧ H' = H ∧ ∀ m, 1 ≤ m → m ≤ i → 2 * (l.take m).count 41 ≤ m) ⟨none, rfl, rfl, fun m h1 h2 => by omega⟩ ?_ ?_
        · rintro i σ H' hi ⟨x, rfl, rfl, hall⟩
          have e1 : (1 : Int) + (i : Int) = ((i + 1 : Nat) : Int) := by omega
          rw [e1]
          refine ⟨_, rfl, _, rfl, _, rfl, St_ l, rfl, szS (by omega), ?_⟩
          rw [cut_to]
          refine ⟨rfl, _, _, rfl, rfl, _, _, rfl, rfl, .inl ⟨by decide, by decide⟩, _, rfl, _, _, rfl, rfl, _, rfl, ?_⟩
          rw [e41, count_S]
          refine ite2 (fun h => ?_) (fun h => ?_)
          · have h : ((i + 1 : Nat) : Int) < 2 * (((l.take (i + 1)).count 41 : Nat) : Int) := of_decide_eq_true h
            refine ⟨_, rfl, fun x dx nx ndx ne => ⟨x, dx, _, rfl, upd_same, rfl, q _ x (.early (i + 1)) ⟨dx, upd_same⟩ trivial ?_ (fun e => by rw [e] at hi; cases hi) (sm3 (Same.refl _) nx ndx) nx⟩⟩
            show (decide _ && decide _) = true
            rw [decide_eq_true (by omega), decide_eq_true (by rw [Int.toNat_natCast]; exact h)]
            rfl
          · refine ⟨_, rfl, rfl, fun m h1 h2 => ?_⟩
            by_cases hm : m = i + 1
            · subst hm
              exact Nat.not_lt.mp fun hh => h (decide_eq_true (by omega))
            · exact hall m h1 (by omega)
        · rintro σ H' ⟨x, rfl, rfl, hall1⟩
          refine ⟨_, rfl, St_ l, rfl, szS (by omega), _, _, rfl, rfl, ?_⟩
          refine ⟨_, _, rfl, (by rw [len_S]; omega), ?_⟩
          rw [er]
          refine for_range (lo := 1) (n := l.length) (fun i σ H'' => ∃ x, σ = [some (S l), x] ∧ H'' = H' ∧ ∀ m, 1 ≤ m → m ≤ i → 2 * (l.drop (l.length - m)).count 40 ≤ m) ⟨x, rfl, rfl, fun m h1 h2 => by omega⟩ ?_ ?_
          · rintro i σ H'' hi ⟨x, rfl, rfl, hall⟩
            have e1 : (1 : Int) + (i : Int) = ((i + 1 : Nat) : Int) := by omega
            rw [e1]
            have ec : cutS (St_ l) (some (((St_ l).length : Int) - ((i + 1 : Nat) : Int))) none = St_ (l.drop (l.length - (i + 1))) := by
              rw [show ((St_ l).length : Int) - ((i + 1 : Nat) : Int) = ((l.length - (i + 1) : Nat) : Int) by rw [len_S]; omega, cut_from]
            refine ⟨_, rfl, _, rfl, St_ l, rfl, szS (by omega), _, rfl, _, _, rfl, rfl, _, rfl, St_ l, rfl, szS (by omega), ?_⟩
            refine ⟨rfl, _, _, rfl, rfl, _, _, rfl, rfl, .inl ⟨by decide, by decide⟩, _, rfl, _, _, rfl, rfl, _, rfl, ?_⟩
            rw [e40, ec, count_S]
            refine ite2 (fun h => ?_) (fun h => ?_)
            · have h : ((i + 1 : Nat) : Int) < 2 * (((l.drop (l.length - (i + 1))).count 40 : Nat) : Int) := of_decide_eq_true h
              refine ⟨_, rfl, fun x dx nx ndx ne => ⟨x, dx, _, rfl, upd_same, rfl, q _ x (.late (i + 1)) ⟨dx, upd_same⟩ trivial ?_ (fun e => by rw [e] at hi; cases hi) (sm3 (Same.refl _) nx ndx) nx⟩⟩
              show (decide _ && decide _) = true
              rw [decide_eq_true (by omega), decide_eq_true (by rw [Int.toNat_natCast]; exact h)]
              rfl
            · refine ⟨_, rfl, rfl, fun m h1 h2 => ?_⟩
              by_cases hm : m = i + 1
              · subst hm
                exact Nat.not_lt.mp fun hh => h (decide_eq_true (by omega))
              · exact hall m h1 (by omega)
          · rintro σ H'' ⟨x, rfl, rfl, hall2⟩
            obtain ⟨f1, f2⟩ := earliest_ok hrw (by omega) hall1 hall2
            refine ⟨_, rfl, l, rfl, by omega, f1, fun H2 s2 => ?_⟩
            refine fun x dx nx ndx ne => ⟨x, dx, _, rfl, upd_same, rfl, q _ x (.filled _) ⟨dx, upd_same⟩ ⟨(fillE_br l _ hrw).row, by rw [fillE_len]; omega⟩ f2 (fun _ => ⟨_, rfl⟩) (sm3 s2 nx ndx) (s2.free nx)⟩
    · exact ⟨_, rfl, v, rfl, .inr ⟨hn, q⟩⟩
end
end HT

set_option Elab.async false
set_option linter.all false
set_option maxRecDepth 100000
set_option maxHeartbeats 4000000
/-! for c in reversed(text). -/
namespace RS
open PySem PySem.Spec PyProof.Rows L2 RT
theorem norev_str : typeLookup (.type "str") "__reversed__" = pure none := by rw [typeLookup_type, builtinLookup_eq_fast]; kernel_rfl
theorem get_str : typeLookup (.type "str") "__getitem__" = pure (some (.builtin "str.__getitem__")) := by rw [typeLookup_type, builtinLookup_eq_fast]; kernel_rfl
theorem no_dict : isSubtype (.type "str") (.type "dict") = pure false := by rw [isSubtype_type]; kernel_rfl
abbrev rsObj (x : Str) (t : Tok) (i : Int) : Obj := { cls := .type "reversed", data := .fields #[.str x t, rawInt i] }
/-- an iterator over x told backwards, the next place i -/
def IsRs (h : Heap) (a : Addr) (x : Str) (t : Tok) (i : Int) : Prop := ∃ o, h.get? a = some o ∧ o.cls = .type "reversed" ∧ o.data = .fields #[.str x t, rawInt i]
section
variable {prog : Program} {w : World} {A : Around} {E : Value → Shared → Prop} {s : Shared} {x : Str} {t : Tok}
theorem IsRs.ty {a : Addr} {i : Int} (r : IsRs s.heap a x t i) : s.TypeIs (.ref a) "reversed" := by
  obtain ⟨o, h1, h2, _⟩ := r
  exact ⟨o, h1, h2⟩
theorem new_rs {R : Value → Shared → Prop} (hz : x.length ≤ sizeLine) (h : R (.ref s.heap.objs.size) { s with heap := s.heap.push (rsObj x t ((x.length : Int) - 1)), toks := s.toks + 1 + 1 }) :
    codeAny (model prog w) A (.call (.builtin "reversed.__new__") ⟨[.type "reversed", .str x t], []⟩) (wants R E) s := by
  have hT : s.TypeIs (.str x t) "str" := typeIs_str _ _ _
  rw [sizeLine_eq] at hz
  refine codeAny_of_tree ?_
  show wpAny _ A.in1 (checkBuiltinCall "reversed.__new__" ⟨[.type "reversed", .str x t], []⟩ >>= fun _ => again (.builtin "reversed.__new__" ⟨[.type "reversed", .str x t], []⟩)) _ _ s
  refine wpAny_bind (wpAny_of_eq (F.newCall_reversed_1 _) (wpAny_pure ⟨plainId_quiet F.plain_reversed_new _, codeAny_builtin F.entry_reversed_new ?_⟩))
  rw [Around.under_plainId F.plain_reversed_new _]
  unfold Builtin.«reversed.__new__»
  refine wpAny_bind (wpAny_of_eq (newClass_reversed _) ?_)
  try dsimp only
  refine wpAny_bind (wpAny_of_eq (a := ()) (by first | rfl | kernel_rfl) ?_)
  try dsimp only
  refine wpAny_bind (wpAny_of_eq (a := ()) (by first | rfl | kernel_rfl) ?_)
  try dsimp only
  refine wpAny_bind (wpAny_specialOf hT norev_str ?_)
  try dsimp only
  refine wpAny_bind ?_
  wp_delta
  refine wpAny_bind (wpAny_isInstance (T := "str") (U := "dict") (b := false) hT no_dict ?_)
  try dsimp only
  try rw [if_neg Bool.false_ne_true]
  try dsimp only
  refine wpAny_bind (wpAny_specialOf hT get_str ?_)
  try dsimp only
  try rw [if_pos (by decide +kernel)]
  refine wpAny_pure ?_
  try dsimp only
  try rw [if_neg (by decide)]
  try dsimp only
  refine wpAny_bind (len_str (by omega) ?_)
  refine wpAny_bind (wpAny_of_eq (a := some ((x.length : Nat) : Int)) rfl ?_)
  try dsimp only
  refine wpAny_bind ?_
  show wpAny _ _ (newObj (.type "reversed") (.fields #[.str x t, rawInt ((x.length : Int) - 1)])) _ _ _
  exact wpAny_newObj_type (wpAny_pure h)
theorem call_rs {Q : Value → Shared → Prop} (hz : x.length ≤ sizeLine) (h : Q (.ref s.heap.objs.size) { s with heap := s.heap.push (rsObj x t ((x.length : Int) - 1)), toks := s.toks + 1 + 1 }) :
    wpAny (model prog w) A (call (.type "reversed") [.str x t]) Q E s := by
  refine callType_codes (Q₁ := fun obj s₁ => s₁.TypeIs obj "reversed" ∧ Q obj s₁) called_rt (F.typeCall_reversed_1 _) F.entry_object_init
    (new_rs (A := A.in1) hz ⟨⟨_, Heap.get?_push_size _ rfl, rfl⟩, h⟩) fun obj s₁ h₁ => ?_
  exact ⟨h₁.1, F.args_object_init_2 obj _, object_init_meets called_rt.init.lookup called_rt.made (by decide) prog w A.in1 _ s₁ ⟨h₁.1, rfl, h₁.2⟩⟩
theorem next_rs {it : Addr} {i c : Nat} {Q : Option Value → Shared → Prop} (hit : IsRs s.heap it x t (i : Int)) (hx : x.cps[i]? = some c) (hsz : x.length ≤ sizeLine)
    (hQ : ∀ h' tk u, IsRs h' it x t ((i : Int) - 1) → Heap.SameBut it s.heap h' → Q (some (.str ⟨#[c]⟩ u)) { s with heap := h', toks := tk }) : wpAny (model prog w) A (pyNext (.ref it)) Q E s := by
  obtain ⟨o, ho, hc, hd⟩ := id hit
  have hi : i < x.length := (Array.getElem?_eq_some_iff.mp hx).1
  have hT : s.TypeIs (.str x t) "str" := typeIs_str _ _ _
  rw [sizeLine_eq] at hsz
  unfold pyNext
  refine wpAny_bind (wpAny_attempt (wpAny_callSpecial?_slot (name := Str.ofString "__next__") hit.ty slot_rt_next
    (wpAny_call_entry slot_rt_next hit.ty entry_rt_next ?_ (args_rt_next _))))
  unfold Builtin.«reversed.__next__»
  refine wpAny_bind (wpAny_of_eq (a := (Value.ref it, [])) rfl ?_)
  try dsimp only
  refine wpAny_bind (wpAny_field ho hd (x := .str x t) rfl ?_)
  try dsimp only
  refine wpAny_bind (wpAny_field ho hd (x := rawInt (i : Int)) rfl ?_)
  show wpAny _ _ (if (i : Int) < 0 then _ else _) _ _ s
  rw [if_neg (by omega)]
  try dsimp only
  refine wpAny_bind (wpAny_specialOf hT get_str ?_)
  try dsimp only
  try rw [if_neg (by decide)]
  try dsimp only
  refine wpAny_bind (wpAny_mkInt ?_)
  refine wpAny_bind (wpAny_attempt ?_)
  have fin : seqIndex? (i : Int) x.length = some i := seqIndex_of (by omega) (by omega)
  refine PyProof.Rows.getItem_str (s := { s with toks := s.toks + 1 }) (c := c) (by
    have e1 : decide ((i : Int) < -(2 ^ 63 : Int)) = false := decide_eq_false (by omega)
    have e2 : decide ((i : Int) ≥ 2 ^ 63) = false := decide_eq_false (by omega)
    rw [e1, e2, Bool.or_false]) (by rw [fin]; simpa using hx) ?_
  try dsimp only
  refine wpAny_bind (wpAny_field (s := { s with toks := s.toks + 1 + 1 }) ho hd (x := rawInt (i : Int)) rfl ?_)
  try dsimp only
  refine wpAny_bind (wpAny_setField (s := { s with toks := s.toks + 1 + 1 }) ho hd (by simp) ?_)
  first
  | refine wpAny_pure ⟨_, rfl, wpAny_pure (hQ _ _ _ ?_ (Heap.SameBut.update ..))⟩
  | refine wpAny_bind (wpAny_pure (wpAny_pure ⟨_, rfl, wpAny_pure (hQ _ _ _ ?_ (Heap.SameBut.update ..))⟩))
  exact ⟨_, Heap.get?_update_self _ ho (Obj.isFreed_of_fields (Obj.data_mapFields hd _)), (Obj.cls_mapFields ..).trans hc, by
    rw [Obj.data_mapFields hd]; simp⟩
theorem end_rs {it : Addr} {Q : Option Value → Shared → Prop} (hh : A.handled = none) (hit : IsRs s.heap it x t (-1))
    (hQ : ∀ h', Heap.ExtBut it s.heap h' → Q none { s with heap := h' }) : wpAny (model prog w) A (pyNext (.ref it)) Q E s := by
  obtain ⟨o, ho, hc, hd⟩ := id hit
  unfold pyNext
  refine wpAny_bind (wpAny_attempt (wpAny_callSpecial?_slot (name := Str.ofString "__next__") hit.ty slot_rt_next
    (wpAny_call_entry slot_rt_next hit.ty entry_rt_next ?_ (args_rt_next _))))
  unfold Builtin.«reversed.__next__»
  refine wpAny_bind (wpAny_of_eq (a := (Value.ref it, [])) rfl ?_)
  try dsimp only
  refine wpAny_bind (wpAny_field ho hd (x := .str x t) rfl ?_)
  try dsimp only
  refine wpAny_bind (wpAny_field ho hd (x := rawInt (-1)) rfl ?_)
  show wpAny _ _ (if (-1 : Int) < 0 then _ else _) _ _ s
  rw [if_pos (by decide)]
  try dsimp only
  refine wpAny_bind (wpAny_rule ?_)
  refine wpAny_bind ?_
  wp_delta
  refine wpAny_bind (wpAny_setField ho hd (by simp) ?_)
  have ho2 := Heap.get?_update_self (Obj.mapFields (·.setIfInBounds 1 (rawInt (-1)))) ho (Obj.isFreed_of_fields (Obj.data_mapFields hd _))
  refine wpAny_setField (s := { s with heap := s.heap.update it (Obj.mapFields (·.setIfInBounds 1 (rawInt (-1)))) }) ho2 (Obj.data_mapFields hd _) (by simp) ?_
  try dsimp only
  first
  | show wpAny _ _ (newExc (.type "StopIteration") [] >>= _) _ _ _
  | (refine wpAny_bind ?_; show wpAny _ _ (newExc (.type "StopIteration") [] >>= _) _ _ _)
  | (refine wpAny_bind ?_; wp_delta; show wpAny _ _ (newExc (.type "StopIteration") [] >>= _) _ _ _)
  refine wpAny_bind ?_
  simp only [newExc, newTuple]
  refine wpAny_bind (wpAny_newObj_type ?_ (by size_fits))
  refine wpAny_bind (m := firstArgMember _ _) (wpAny_of_eq (a := Value.none) (by first | rfl | (simp only [firstArgMember]; rfl)) ?_)
  refine wpAny_newObj_type ?_ (by size_fits)
  simp only [raiseNew]
  refine wpAny_bind (wpAny_handled ?_)
  first | rw [show A.in1.handled = none from hh] | rw [hh]
  refine wpAny_bind (wpAny_pure (wpAny_throw ?_))
  refine wpAny_bind (wpAny_isInstance (T := "StopIteration") (b := true) ⟨_, Heap.get?_push_size _ rfl, rfl⟩ isSubtype_stop ?_)
  refine wpAny_pure (hQ _ ?_)
  refine ((?_ : Heap.ExtBut it s.heap _).push _).push _
  exact fun b ob hb e => (Heap.get?_update_other _ _ (Ne.symm hb)).trans ((Heap.get?_update_other _ _ (Ne.symm hb)).trans e)
theorem iter_rs {it : Addr} {i : Int} {Q : Value → Shared → Prop} (hit : IsRs s.heap it x t i) (h : Q (.ref it) s) : wpAny (model prog w) A (pyIter (.ref it)) Q E s := by
  refine wpAny_pyIter_slot hit.ty slot_rt_iter (wpAny_call_entry slot_rt_iter hit.ty entry_rt_iter ?_ (args_rt_iter _))
  show wpAny _ _ (ret (.ref it)) _ _ s
  exact wpAny_pure ⟨_, rfl, "reversed", _, hit.ty, slot_rt_next.lookup, h⟩
end
end RS
namespace L2
open PySem PySem.Spec PyProof.Rows RS
def Itsr (x : Str) : It := ⟨fun i _ => i < x.cps.size, fun i H v H' => H' = H ∧ ∃ c, x.cps[x.cps.size - 1 - i]? = some c ∧ v = .str ⟨#[c]⟩, fun i _ => x.cps.size ≤ i⟩
theorem turn_rs {P : Program} {w : World} {K : PySem.W.Frag} {tg : Expr} (it : Addr) (x : Str) (t : Tok) (hz : x.length ≤ sizeLine) : Turn P w K tg (Itsr x) [it] it (fun i h => i ≤ x.cps.size ∧ IsRs h it x t ((x.cps.size : Int) - 1 - (i : Nat))) where
  mem := by simp
  obj := fun i h st b hb => by
    have e : b = it := by simpa using hb
    subst e
    obtain ⟨_, o, e, c, d⟩ := st
    exact ⟨o, e, fun v z => by rw [d] at z; cases z⟩
  keep := fun i h h' st k => ⟨st.1, let ⟨o, ho, r⟩ := st.2; ⟨o, k it (by simp) o ho, r⟩⟩
  item := by
    intro X hP hw hK hc i pins s σ H E I hf st hg
    subst hP hw hK
    have hin : i < x.cps.size := hg
    obtain ⟨f0, f1, f2, f3, f4, f5⟩ := hf it (by simp)
    obtain ⟨_, hit⟩ := st
    have e1 : (x.cps.size : Int) - 1 - ((i : Nat) : Int) = ((x.cps.size - 1 - i : Nat) : Int) := by omega
    rw [e1] at hit
    have hg2 : x.cps[x.cps.size - 1 - i]? = some (x.cps[x.cps.size - 1 - i]'(by omega)) := Array.getElem?_eq_getElem (by omega)
    refine next_rs hit hg2 hz fun h' tk u st' sb => ?_
    have e2 : ((x.cps.size - 1 - i : Nat) : Int) - 1 = (x.cps.size : Int) - 1 - ((i + 1 : Nat) : Int) := by omega
    rw [e2] at st'
    have I1 : Inv X pins σ H { s with heap := h', toks := tk } := I.turned (t' := tk) (fun b o hb e => (sb.2 b hb).trans e) f0 f1 f3 f4 f5
    obtain ⟨o, e, c, d⟩ := id st'
    exact ⟨_, rfl, go_of (s := { s with heap := h', toks := tk }) e c d (by decide) ⟨.str ⟨#[x.cps[x.cps.size - 1 - i]'(by omega)]⟩, H, I1, ⟨u, rfl⟩, ⟨rfl, _, hg2, rfl⟩, ⟨hin, st'⟩, fun b hb => (hf b hb).1⟩⟩
  done := by
    intro X hP hw hK hc i pins s σ H E I hf st hg
    subst hP hw hK
    obtain ⟨f0, f1, f2, f3, f4, f5⟩ := hf it (by simp)
    obtain ⟨hin, hit⟩ := st
    have hge : x.cps.size ≤ i := hg
    have e1 : (x.cps.size : Int) - 1 - ((i : Nat) : Int) = -1 := by omega
    rw [e1] at hit
    exact end_rs (I.ok.hd hc) hit fun h' eb => ⟨rfl, I.turned (t' := s.toks) (fun b o hb e => eb b o hb e) f0 f1 f3 f4 f5⟩
  self := fun A i s Q E st h => iter_rs st.2 h
def iRevS (ta : TA) : TI := fun σ H R => ta σ H fun vs H1 => ∃ x, vs = [.str x] ∧ x.length ≤ sizeLine ∧ R (Itsr x) H1
theorem pi_revS {X : Cx} {tg e : Expr} {ta : TA} {p pos : Pos} (hg : Gl X "reversed") (hm : X.mg "reversed" = none) (ha : PA X [e] ta) (hs : starEach [e] X.env = [(false, eval e X.env)] := by rfl) : PI X tg (.Call (.Name "reversed" p) [e] [] pos) (iRevS ta) := by
  refine ⟨fun pins s σ H R I h => ?_⟩
  refine Call_ (ld_blt I hg hm PyProof.Rows.boot_reversed (PyProof.Rows.callWith_type1 (thn (ha.run pos pins s σ H _ I h) fun us s1 ⟨vs, H1, I1, r1, q1⟩ => ?_) hs rfl))
  obtain ⟨x, e, hz, q⟩ := q1
  subst e
  cases r1 with
  | cons r rr =>
    cases rr
    obtain ⟨t, rfl⟩ := r
    have e1 : (x.length : Int) - 1 = (x.cps.size : Int) - 1 - ((0 : Nat) : Int) := by show (x.cps.size : Int) - 1 = _; omega
    refine call_rs hz (iter_rs (x := x) (t := t) (i := (x.length : Int) - 1) ⟨_, Heap.get?_push_size _ rfl, rfl, rfl⟩ ?_)
    refine pi_one (tk := s1.toks + 1 + 1) I1 _ (turn_rs _ x t hz) ⟨Nat.zero_le _, ?_⟩ q
    rw [← e1]
    exact ⟨_, Heap.get?_push_size _ rfl, rfl, rfl⟩
theorem walk_rs {z : Str} : Walk (Itsr z) z.cps.size (fun _ => True) (fun i H v H' => H' = H ∧ ∃ c, z.cps[z.cps.size - 1 - i]? = some c ∧ v = .str ⟨#[c]⟩) :=
  ⟨fun _ _ hi _ => hi, fun _ _ => Nat.le_refl _, fun _ _ _ _ _ _ y => y⟩
/-- for c in reversed(text): what is told so far is the end s -/
theorem for_rtxt {l : List Nat} {g : TG} {tb : TS} {D : Ends} {σ : St} {H : Hp} (Pv : List Nat → St → Hp → Prop) (h0 : Pv [] σ H)
    (hs : ∀ p c r σ H, l = p ++ c :: r → Pv r σ H → g (ch c) σ H fun σ2 H2 => tb { D with nx := Pv (c :: r), ct := Pv (c :: r), bk := D.nx } σ2 H2) (hd : ∀ σ H, Pv l σ H → D.nx σ H) : LoopOk (Itsr (St_ l)) g tb D σ H := by
  have hsz : (St_ l).cps.size = l.length := by simp
  refine for_it (walk_rs (z := St_ l)) (fun i σ H => Pv (l.drop (l.length - i)) σ H) ?_ (fun _ _ _ _ _ => trivial) (fun i x σ H H' hi p y => ?_) (fun σ H p => hd σ H ?_)
  · show Pv (l.drop (l.length - 0)) σ H
    rw [Nat.sub_zero, List.drop_length]; exact h0
  · obtain ⟨rfl, c, hc, rfl⟩ := y
    rw [hsz] at hi hc
    have hc' : l[l.length - 1 - i]? = some c := by simpa using hc
    obtain ⟨e1, e2, e3⟩ := take_split hc'
    have ed : l.drop (l.length - (i + 1)) = c :: l.drop (l.length - i) := by
      have hlt : l.length - 1 - i < l.length := by omega
      rw [show l.length - (i + 1) = l.length - 1 - i by omega, List.drop_eq_getElem_cons hlt]
      rw [List.getElem?_eq_getElem hlt] at hc'
      rw [Option.some.inj hc', show l.length - 1 - i + 1 = l.length - i by omega]
    show g (ch c) σ H' fun σ2 H2 => tb { D with nx := fun σ H => Pv (l.drop (l.length - (i + 1))) σ H, ct := fun σ H => Pv (l.drop (l.length - (i + 1))) σ H, bk := D.nx } σ2 H2
    rw [ed]
    exact hs (l.take (l.length - 1 - i)) c _ σ _ (by rw [show l.length - i = l.length - 1 - i + 1 by omega]; exact e1) p
  · have e : l.drop (l.length - (St_ l).cps.size) = l := by rw [hsz, Nat.sub_self]; rfl
    rw [e] at p
    exact p
end L2
namespace L2
open PySem PySem.Spec PyProof.Rows
theorem last_of {α : Type} {L : List (Addr × α)} {A : List α} {q : α} (h : L.map (·.2) = A ++ [q]) : ∃ L0 a, L = L0 ++ [(a, q)] ∧ L0.map (·.2) = A := by
  obtain ⟨L0, L1, rfl, h0, h1⟩ := List.map_eq_append_iff.mp h
  obtain ⟨e, L2, rfl, h2, h3⟩ := List.map_eq_cons_iff.mp h1
  have : L2 = [] := List.map_eq_nil_iff.mp h3
  subst this
  exact ⟨L0, e.1, by rw [← h2], h0⟩
theorem get_of {α : Type} {L : List (Addr × α)} {A : List α} {q : α} {i : Nat} (h : L.map (·.2) = A) (hi : A[i]? = some q) : ∃ a, L[i]? = some (a, q) := by
  rw [← h, List.getElem?_map] at hi
  cases hL : L[i]? with
  | none => rw [hL] at hi; cases hi
  | some e => rw [hL] at hi; exact ⟨e.1, by rw [show e = (e.1, q) from by rw [← Option.some.inj hi]]⟩
theorem max2 (i j : Int) : (if j > i then j else i) = max i j := by omega
theorem min2 (i j : Int) : (if j < i then j else i) = min i j := by omega
theorem iteD {c A B : Prop} [Decidable c] (h : c) (k : A) : if decide c = true then A else B := by
  rw [decide_eq_true h]
  exact iteT k
theorem iteDn {c A B : Prop} [Decidable c] (h : ¬ c) (k : B) : if decide c = true then A else B := by
  rw [decide_eq_false h]
  exact iteF k
theorem eq_op (c : Nat) : ch c = V.str (Str.ofString "(") ↔ c = 40 := by rw [← decide_eq_decide]; exact d_op c
theorem eq_cl (c : Nat) : ch c = V.str (Str.ofString ")") ↔ c = 41 := by rw [← decide_eq_decide]; exact d_cl c
theorem eq_qu (c : Nat) : ch c = V.str (Str.ofString "?") ↔ c = 63 := by rw [← decide_eq_decide]; exact d_q c
theorem iteNT {c A B : Prop} [Decidable c] (h : ¬ c) (k : A) : if (!decide c) = true then A else B := by
  rw [decide_eq_false h]
  exact iteT k
end L2

set_option Elab.async false
set_option linter.all false
set_option maxRecDepth 100000
/-! What may be open where the rest can be filled; the first and the last filling; the settled row. -/
namespace BR
def can : List Nat → Nat → Bool
  | [], d => decide (d = 0)
  | c :: r, d => (decide (c ≠ 41) && can r (d + 1)) || (decide (c ≠ 40) && (decide (0 < d) && can r (d - 1)))
theorem can_cons (c : Nat) (r : List Nat) (d : Nat) : can (c :: r) d = true ↔ (c ≠ 41 ∧ can r (d + 1) = true) ∨ (c ≠ 40 ∧ 0 < d ∧ can r (d - 1) = true) := by
  simp only [can, Bool.or_eq_true, Bool.and_eq_true, decide_eq_true_eq]
def dn (x : Int) : Int := if 0 < x then x - 1 else x + 1
def bstep (c : Nat) (p : Int × Int) : Int × Int :=
  if p.1 ≤ p.2 ∧ c = 41 then (p.1 + 1, p.2 + 1)
  else if p.1 ≤ p.2 ∧ c = 63 then (dn p.1, p.2 + 1)
  else if p.1 ≤ p.2 ∧ 0 < p.2 then (dn p.1, p.2 - 1)
  else (1, 0)
def bpair : List Nat → Int × Int
  | [] => (0, 0)
  | c :: r => bstep c (bpair r)
def bps : List Nat → List (Int × Int)
  | [] => [(0, 0)]
  | c :: r => bpair (c :: r) :: bps r
def inB (p : Int × Int) (d : Int) : Prop := p.1 ≤ d ∧ d ≤ p.2 ∧ (d - p.1) % 2 = 0
def BOk (p : Int × Int) : Prop := p = (1, 0) ∨ (0 ≤ p.1 ∧ p.1 ≤ p.2 ∧ (p.2 - p.1) % 2 = 0)
theorem can_iff : ∀ (l : List Nat), IsRow l → BOk (bpair l) ∧ ∀ d : Nat, can l d = true ↔ inB (bpair l) d
  | [], _ => ⟨.inr ⟨by decide, by decide, by decide⟩, fun d => by simp only [can, decide_eq_true_eq, inB, bpair]; omega⟩
  | c :: r, h => by
    obtain ⟨hb, hd⟩ := can_iff r fun y hy => h y (List.mem_cons_of_mem _ hy)
    have hc := h c List.mem_cons_self
    show BOk (bstep c (bpair r)) ∧ ∀ d : Nat, can (c :: r) d = true ↔ inB (bstep c (bpair r)) d
    generalize bpair r = p at hb hd
    obtain ⟨lo, hi⟩ := p
    have hcan : ∀ d : Nat, can (c :: r) d = true ↔ (c ≠ 41 ∧ inB (lo, hi) (d + 1 : Nat)) ∨ (c ≠ 40 ∧ 0 < d ∧ inB (lo, hi) (d - 1 : Nat)) := fun d => by rw [can_cons, hd, hd]
    rcases hb with hb | ⟨b1, b2, b3⟩
    · cases hb
      have e : bstep c ((1 : Int), (0 : Int)) = (1, 0) := by
        unfold bstep
        rw [if_neg (by omega), if_neg (by omega), if_neg (by omega)]
      rw [e]
      refine ⟨.inl rfl, fun d => ?_⟩
      rw [hcan]
      simp only [inB]
      omega
    · simp only at b1 b2 b3
      rcases hc with rfl | rfl | rfl
      · by_cases h0 : 0 < hi
        · have e : bstep 40 (lo, hi) = (dn lo, hi - 1) := by
            unfold bstep
            rw [if_neg (by omega), if_neg (by omega), if_pos ⟨b2, h0⟩]
          rw [e]
          unfold dn BOk
          by_cases hl : 0 < lo
          · rw [if_pos hl]
            refine ⟨.inr ⟨by simp only; omega, by simp only; omega, by simp only; omega⟩, fun d => ?_⟩
            rw [hcan]; simp only [inB]; omega
          · rw [if_neg hl]
            refine ⟨.inr ⟨by simp only; omega, by simp only; omega, by simp only; omega⟩, fun d => ?_⟩
            rw [hcan]; simp only [inB]; omega
        · have e : bstep 40 (lo, hi) = (1, 0) := by
            unfold bstep
            rw [if_neg (by omega), if_neg (by omega), if_neg (by simp only; omega)]
          rw [e]
          refine ⟨.inl rfl, fun d => ?_⟩
          rw [hcan]; simp only [inB]; omega
      · have e : bstep 41 (lo, hi) = (lo + 1, hi + 1) := by
          unfold bstep
          rw [if_pos ⟨b2, rfl⟩]
        rw [e]
        refine ⟨.inr ⟨by simp only; omega, by simp only; omega, by simp only; omega⟩, fun d => ?_⟩
        rw [hcan]; simp only [inB]; omega
      · have e : bstep 63 (lo, hi) = (dn lo, hi + 1) := by
          unfold bstep
          rw [if_neg (by omega), if_pos ⟨b2, rfl⟩]
        rw [e]
        unfold dn BOk
        by_cases hl : 0 < lo
        · rw [if_pos hl]
          refine ⟨.inr ⟨by simp only; omega, by simp only; omega, by simp only; omega⟩, fun d => ?_⟩
          rw [hcan]; simp only [inB]; omega
        · rw [if_neg hl]
          refine ⟨.inr ⟨by simp only; omega, by simp only; omega, by simp only; omega⟩, fun d => ?_⟩
          rw [hcan]; simp only [inB]; omega
theorem bps_get : ∀ (l : List Nat) (i : Nat), i ≤ l.length → (bps l)[i]? = some (bpair (l.drop i))
  | [], 0, _ => rfl
  | c :: r, 0, _ => rfl
  | c :: r, i + 1, h => by
    show (bps r)[i]? = _
    rw [bps_get r i (by simpa using h)]
    rfl
theorem bps_len : ∀ l : List Nat, (bps l).length = l.length + 1
  | [] => rfl
  | c :: r => by show (bps r).length + 1 = _; rw [bps_len r]; rfl
theorem bps_head (l : List Nat) : ∃ t, bps l = bpair l :: t := by cases l <;> exact ⟨_, rfl⟩
theorem can_zero {l : List Nat} (h : IsRow l) : can l 0 = true ↔ (bpair l).1 = 0 := by
  obtain ⟨hb, hd⟩ := can_iff l h
  rw [hd]
  unfold inB
  rcases hb with hb | hb
  · rw [hb]; simp
  · omega
/-! ### fillings from d on -/
def Fil : List Nat → Nat → List Nat → Prop
  | [], d, t => t = [] ∧ d = 0
  | c :: r, d, t => ∃ x t', t = x :: t' ∧ ((x = 40 ∧ c ≠ 41 ∧ Fil r (d + 1) t') ∨ (x = 41 ∧ c ≠ 40 ∧ 0 < d ∧ Fil r (d - 1) t'))
theorem can_fil : ∀ (l : List Nat) (d : Nat), can l d = true ↔ ∃ t, Fil l d t
  | [], d => by simp [can, Fil]
  | c :: r, d => by
    rw [can_cons, can_fil r, can_fil r]
    constructor
    · rintro (⟨h, t, ht⟩ | ⟨h, h0, t, ht⟩)
      · exact ⟨40 :: t, 40, t, rfl, .inl ⟨rfl, h, ht⟩⟩
      · exact ⟨41 :: t, 41, t, rfl, .inr ⟨rfl, h, h0, ht⟩⟩
    · rintro ⟨_, x, t, rfl, (⟨rfl, h, ht⟩ | ⟨rfl, h, h0, ht⟩)⟩
      · exact .inl ⟨h, t, ht⟩
      · exact .inr ⟨h, h0, t, ht⟩
theorem fits_cons (c : Nat) (r : List Nat) (x : Nat) (t : List Nat) : fits (c :: r) (x :: t) = true ↔ (c = 63 ∨ c = x) ∧ fits r t = true := by
  unfold fits
  rw [List.zip_cons_cons, List.all_cons, Bool.and_eq_true, decide_eq_true_eq]
theorem Fil_iff : ∀ (l : List Nat) (d : Nat) (t : List Nat), IsRow l → (Fil l d t ↔ t.length = l.length ∧ fits l t = true ∧ run d t = some 0)
  | [], d, t, _ => by
    constructor
    · rintro ⟨rfl, rfl⟩; exact ⟨rfl, rfl, rfl⟩
    · rintro ⟨h1, _, h3⟩
      have : t = [] := List.length_eq_zero_iff.mp h1
      subst this
      have h3 : some d = some 0 := h3
      exact ⟨rfl, Option.some.inj h3⟩
  | c :: r, d, t, h => by
    have ih := fun e t => Fil_iff r e t fun y hy => h y (List.mem_cons_of_mem _ hy)
    have hc := h c List.mem_cons_self
    constructor
    · rintro ⟨x, t', rfl, (⟨rfl, h1, ht⟩ | ⟨rfl, h1, h0, ht⟩)⟩
      · obtain ⟨a1, a2, a3⟩ := (ih _ _).mp ht
        exact ⟨by simp [a1], (fits_cons ..).mpr ⟨by omega, a2⟩, by rw [run_op]; exact a3⟩
      · obtain ⟨a1, a2, a3⟩ := (ih _ _).mp ht
        obtain ⟨k, rfl⟩ : ∃ k, d = k + 1 := ⟨d - 1, by omega⟩
        exact ⟨by simp [a1], (fits_cons ..).mpr ⟨by omega, a2⟩, by rw [run_cl]; exact a3⟩
    · rintro ⟨h1, h2, h3⟩
      cases t with
      | nil => simp at h1
      | cons x t' =>
        obtain ⟨b1, b2⟩ := (fits_cons ..).mp h2
        have hl : t'.length = r.length := by simpa using h1
        by_cases hx : x = 40
        · subst hx
          exact ⟨40, t', rfl, .inl ⟨rfl, by omega, (ih _ _).mpr ⟨hl, b2, h3⟩⟩⟩
        · by_cases hx1 : x = 41
          · subst hx1
            cases d with
            | zero => rw [run_cl0] at h3; cases h3
            | succ k => exact ⟨41, t', rfl, .inr ⟨rfl, by omega, by omega, (ih _ _).mpr ⟨hl, b2, h3⟩⟩⟩
          · rw [run_no hx hx1] at h3; cases h3
theorem Fil_filling {l t : List Nat} (h : IsRow l) : Fil l 0 t ↔ isFilling l t = true ∧ IsRow t := by
  rw [Fil_iff l 0 t h]
  unfold isFilling
  rw [Bool.and_eq_true, Bool.and_eq_true, decide_eq_true_eq]
  constructor
  · rintro ⟨h1, h2, h3⟩
    have hr := (run_br t 0 0 h3).row
    exact ⟨⟨h1, (isClosed_iff t hr).mpr h3, h2⟩, hr⟩
  · rintro ⟨⟨h1, h2, h3⟩, hr⟩
    exact ⟨h1, h3, (isClosed_iff t hr).mp h2⟩
/-! ### the first and the last one -/
def lle : List Nat → List Nat → Prop
  | [], _ => True
  | _ :: _, [] => False
  | a :: t, b :: u => a < b ∨ (a = b ∧ lle t u)
theorem lle_anti : ∀ (t u : List Nat), t.length = u.length → lle t u → lle u t → t = u
  | [], [], _, _, _ => rfl
  | [], _ :: _, h, _, _ => by simp at h
  | _ :: _, [], h, _, _ => by simp at h
  | a :: t, b :: u, h, h1, h2 => by
    simp only [lle] at h1 h2
    rcases h1 with h1 | ⟨e, h1⟩
    · rcases h2 with h2 | ⟨e, h2⟩ <;> omega
    · rcases h2 with h2 | ⟨_, h2⟩
      · omega
      · rw [e, lle_anti t u (by simpa using h) h1 h2]
/-- op: whether opening is tried first -/
def gsign (op : Bool) (c : Nat) (r : List Nat) (d : Nat) : Nat :=
  if c = 63 then (if op then (if can r (d + 1) then 40 else 41) else (if decide (0 < d) && can r (d - 1) then 41 else 40)) else c
def greedy (op : Bool) : List Nat → Nat → List Nat
  | [], _ => []
  | c :: r, d => gsign op c r d :: greedy op r (if gsign op c r d = 40 then d + 1 else d - 1)
theorem greedy_len (op : Bool) : ∀ (l : List Nat) (d : Nat), (greedy op l d).length = l.length
  | [], _ => rfl
  | c :: r, d => by simp only [greedy, List.length_cons, greedy_len op r]
/-- the greedy sign leads on -/
theorem gsign_ok {op : Bool} {c : Nat} {r : List Nat} {d : Nat} (hc : c = 40 ∨ c = 41 ∨ c = 63) (h : can (c :: r) d = true) :
    (gsign op c r d = 40 ∧ c ≠ 41 ∧ can r (d + 1) = true) ∨ (gsign op c r d = 41 ∧ c ≠ 40 ∧ 0 < d ∧ can r (d - 1) = true) := by
  rw [can_cons] at h
  unfold gsign
  rcases hc with rfl | rfl | rfl
  · rw [if_neg (by decide)]
    exact .inl ⟨rfl, by decide, h.elim (fun h => h.2) (fun h => absurd rfl h.1)⟩
  · rw [if_neg (by decide)]
    exact .inr ⟨rfl, by decide, h.elim (fun h => absurd rfl h.1) (fun h => h.2)⟩
  · rw [if_pos rfl]
    cases op with
    | true =>
      rw [if_pos rfl]
      by_cases h1 : can r (d + 1) = true
      · rw [if_pos h1]; exact .inl ⟨rfl, by decide, h1⟩
      · rw [if_neg h1]
        exact .inr ⟨rfl, by decide, h.elim (fun h => absurd h.2 h1) (fun h => h.2)⟩
    | false =>
      rw [if_neg (by decide)]
      by_cases h1 : (decide (0 < d) && can r (d - 1)) = true
      · rw [if_pos h1]
        simp only [Bool.and_eq_true, decide_eq_true_eq] at h1
        exact .inr ⟨rfl, by decide, h1⟩
      · rw [if_neg h1]
        simp only [Bool.and_eq_true, decide_eq_true_eq] at h1
        exact .inl ⟨rfl, by decide, h.elim (fun h => h.2) (fun h => absurd h.2 h1)⟩
theorem greedy_fil (op : Bool) : ∀ (l : List Nat) (d : Nat), IsRow l → can l d = true → Fil l d (greedy op l d)
  | [], d, _, h => ⟨rfl, of_decide_eq_true h⟩
  | c :: r, d, hr, h => by
    have ih := fun e => greedy_fil op r e fun y hy => hr y (List.mem_cons_of_mem _ hy)
    refine ⟨_, _, rfl, ?_⟩
    rcases gsign_ok (op := op) (hr c List.mem_cons_self) h with ⟨e, h1, h2⟩ | ⟨e, h1, h0, h2⟩
    · rw [e, if_pos rfl]; exact .inl ⟨rfl, h1, ih _ h2⟩
    · rw [e, if_neg (by decide)]; exact .inr ⟨rfl, h1, h0, ih _ h2⟩
theorem greedy_first : ∀ (l : List Nat) (d : Nat) (t : List Nat), IsRow l → Fil l d t → lle (greedy true l d) t
  | [], d, t, _, _ => trivial
  | c :: r, d, _, hr, ⟨x, t, rfl, ht⟩ => by
    have ih := fun e t => greedy_first r e t fun y hy => hr y (List.mem_cons_of_mem _ hy)
    show gsign true c r d < x ∨ (gsign true c r d = x ∧ lle _ t)
    have hcan : can (c :: r) d = true := (can_fil _ _).mpr ⟨x :: t, x, t, rfl, ht⟩
    rcases gsign_ok (op := true) (hr c List.mem_cons_self) hcan with ⟨e, h1, h2⟩ | ⟨e, h1, h0, h2⟩
    · rw [e, if_pos rfl]
      rcases ht with ⟨rfl, _, ht⟩ | ⟨rfl, _, _, ht⟩
      · exact .inr ⟨rfl, ih _ _ ht⟩
      · exact .inl (by decide)
    · rw [e, if_neg (by decide)]
      rcases ht with ⟨rfl, h3, ht⟩ | ⟨rfl, _, _, ht⟩
      · exfalso
        have hc : can r (d + 1) = true := (can_fil _ _).mpr ⟨t, ht⟩
        unfold gsign at e
        have hcc := hr c List.mem_cons_self
        have h63 : c = 63 := by omega
        rw [if_pos h63, if_pos rfl, if_pos hc] at e
        cases e
      · exact .inr ⟨rfl, ih _ _ ht⟩
theorem greedy_last : ∀ (l : List Nat) (d : Nat) (t : List Nat), IsRow l → Fil l d t → lle t (greedy false l d)
  | [], d, t, _, h => by rw [h.1]; trivial
  | c :: r, d, _, hr, ⟨x, t, rfl, ht⟩ => by
    have ih := fun e t => greedy_last r e t fun y hy => hr y (List.mem_cons_of_mem _ hy)
    show x < gsign false c r d ∨ (x = gsign false c r d ∧ lle t _)
    have hcan : can (c :: r) d = true := (can_fil _ _).mpr ⟨x :: t, x, t, rfl, ht⟩
    rcases gsign_ok (op := false) (hr c List.mem_cons_self) hcan with ⟨e, h1, h2⟩ | ⟨e, h1, h0, h2⟩
    · rw [e, if_pos rfl]
      rcases ht with ⟨rfl, _, ht⟩ | ⟨rfl, h3, h4, ht⟩
      · exact .inr ⟨rfl, ih _ _ ht⟩
      · exfalso
        have hc : can r (d - 1) = true := (can_fil _ _).mpr ⟨t, ht⟩
        unfold gsign at e
        have hcc := hr c List.mem_cons_self
        have h63 : c = 63 := by omega
        rw [if_pos h63, if_neg (by decide), if_pos (by rw [hc, decide_eq_true h4]; rfl)] at e
        cases e
    · rw [e, if_neg (by decide)]
      rcases ht with ⟨rfl, h3, ht⟩ | ⟨rfl, _, _, ht⟩
      · exact .inl (by decide)
      · exact .inr ⟨rfl, ih _ _ ht⟩
/-! ### earliest is the first one -/
theorem can_count : ∀ (l : List Nat) (d : Nat), IsRow l → can l d = true → ∃ j : Nat, d + l.count 40 + 2 * j = l.count 41 + l.count 63
  | [], d, _, h => ⟨0, by have := of_decide_eq_true h; simp [this]⟩
  | c :: r, d, hr, h => by
    have ih := fun e => can_count r e fun y hy => hr y (List.mem_cons_of_mem _ hy)
    have hc := hr c List.mem_cons_self
    rw [can_cons] at h
    simp only [List.count_cons]
    rcases h with ⟨h1, h2⟩ | ⟨h1, h0, h2⟩
    · obtain ⟨j, hj⟩ := ih _ h2
      rcases hc with rfl | rfl | rfl
      · exact ⟨j, by simp; omega⟩
      · exact absurd rfl h1
      · exact ⟨j + 1, by simp; omega⟩
    · obtain ⟨j, hj⟩ := ih _ h2
      rcases hc with rfl | rfl | rfl
      · exact absurd rfl h1
      · exact ⟨j, by simp; omega⟩
      · exact ⟨j, by simp; omega⟩
theorem can_up : ∀ (l : List Nat) (d j : Nat), IsRow l → can l d = true → d + l.count 40 + 2 * j = l.count 41 + l.count 63 → 1 ≤ j → can l (d + 2) = true
  | [], d, j, _, h, hj, h1 => by simp at hj; omega
  | c :: r, d, j, hr, h, hj, h1 => by
    have ih := fun e k => can_up r e k fun y hy => hr y (List.mem_cons_of_mem _ hy)
    have hrr : IsRow r := fun y hy => hr y (List.mem_cons_of_mem _ hy)
    have hc := hr c List.mem_cons_self
    rw [can_cons] at h
    rw [can_cons]
    simp only [List.count_cons] at hj
    rcases h with ⟨h2, h3⟩ | ⟨h2, h0, h3⟩
    · rcases hc with rfl | rfl | rfl
      · exact .inl ⟨h2, ih _ j h3 (by simp at hj; omega) h1⟩
      · exact absurd rfl h2
      · exact .inr ⟨by decide, by omega, h3⟩
    · rcases hc with rfl | rfl | rfl
      · exact absurd rfl h2
      · refine .inr ⟨by decide, by omega, ?_⟩
        have := ih _ j h3 (by simp at hj; omega) h1
        rwa [show d - 1 + 2 = d + 2 - 1 by omega] at this
      · refine .inr ⟨by decide, by omega, ?_⟩
        have := ih _ j h3 (by simp at hj; omega) h1
        rwa [show d - 1 + 2 = d + 2 - 1 by omega] at this
theorem fillE_greedy : ∀ (l : List Nat) (d k : Nat), IsRow l → can l d = true → d + l.count 40 + 2 * k = l.count 41 + l.count 63 → fillE k l = greedy true l d
  | [], _, _, _, _, _ => rfl
  | c :: r, d, k, hr, h, hk => by
    have hrr : IsRow r := fun y hy => hr y (List.mem_cons_of_mem _ hy)
    have ih := fun e j => fillE_greedy r e j hrr
    have hc := hr c List.mem_cons_self
    have hg := gsign_ok (op := true) hc h
    simp only [List.count_cons] at hk
    show (if c = 63 then (if 0 < k then 40 else 41) else c) :: fillE (if c = 63 then k - 1 else k) r = gsign true c r d :: greedy true r (if gsign true c r d = 40 then d + 1 else d - 1)
    rcases hc with rfl | rfl | rfl
    · rcases hg with ⟨e, _, h2⟩ | ⟨e, h1, _⟩
      · rw [e, if_pos rfl, if_neg (by decide), if_neg (by decide), ih _ k h2 (by simp at hk; omega)]
      · exact absurd rfl h1
    · rcases hg with ⟨e, h1, _⟩ | ⟨e, _, h0, h2⟩
      · exact absurd rfl h1
      · rw [e, if_neg (by decide), if_neg (by decide), if_neg (by decide), ih _ k h2 (by simp at hk; omega)]
    · rw [if_pos rfl, if_pos rfl]
      simp at hk
      by_cases h0 : 0 < k
      · rw [if_pos h0]
        have hup : can r (d + 1) = true := by
          rw [can_cons] at h
          rcases h with ⟨_, h2⟩ | ⟨_, hd0, h2⟩
          · exact h2
          · have := can_up r (d - 1) k hrr h2 (by omega) h0
            rwa [show d - 1 + 2 = d + 1 by omega] at this
        have e : gsign true 63 r d = 40 := by unfold gsign; rw [if_pos rfl, if_pos rfl, if_pos hup]
        rw [e, if_pos rfl, ih _ (k - 1) hup (by omega)]
      · rw [if_neg h0]
        rcases hg with ⟨e, _, h2⟩ | ⟨e, _, hd0, h2⟩
        · exfalso
          obtain ⟨j, hj⟩ := can_count r _ hrr h2
          omega
        · rw [e, if_neg (by decide), ih _ (k - 1) h2 (by omega)]
theorem earliest_greedy {l : List Nat} (h : IsRow l) (hc : can l 0 = true) : 2 * l.count 40 ≤ l.length ∧ fillE (l.length / 2 - l.count 40) l = greedy true l 0 := by
  obtain ⟨j, hj⟩ := can_count l 0 h hc
  have c3 := count3 l h
  have e : l.length / 2 - l.count 40 = j := by omega
  rw [e]
  exact ⟨by omega, fillE_greedy l 0 j h hc hj⟩
end BR

set_option Elab.async false
set_option linter.all false
set_option maxRecDepth 100000
set_option maxHeartbeats 2000000
/-! The settled row. -/
namespace BR
def wop (c : Nat) (p q : Int × Int) : Bool := decide (c ≠ 41) && decide (max (p.1 + 1) q.1 ≤ min (p.2 + 1) q.2)
def wcl (c : Nat) (p q : Int × Int) : Bool := decide (c ≠ 40) && decide (max (max (p.1 - 1) q.1) 0 ≤ min (p.2 - 1) q.2)
def snx (o k : Bool) (p q : Int × Int) : Int × Int :=
  if o = true ∧ k = false then (max (p.1 + 1) q.1, min (p.2 + 1) q.2)
  else if o = false ∧ k = true then (max (dn p.1) q.1, min (p.2 - 1) q.2)
  else (max (dn p.1) q.1, min (p.2 + 1) q.2)
def ssg (o k : Bool) : Nat := if o = true then (if k = true then 63 else 40) else 41
def setW : List Nat → Int × Int → List Nat
  | [], _ => []
  | c :: r, p => ssg (wop c p (bpair r)) (wcl c p (bpair r)) :: setW r (snx (wop c p (bpair r)) (wcl c p (bpair r)) p (bpair r))
def POk (p : Int × Int) : Prop := 0 ≤ p.1 ∧ p.1 ≤ p.2 ∧ (p.2 - p.1) % 2 = 0
structure Step (c : Nat) (r : List Nat) (p : Int × Int) : Prop where
  some_ : wop c p (bpair r) = true ∨ wcl c p (bpair r) = true
  ok : POk (snx (wop c p (bpair r)) (wcl c p (bpair r)) p (bpair r))
  mem : ∀ d : Nat, inB (snx (wop c p (bpair r)) (wcl c p (bpair r)) p (bpair r)) d ↔ can r d = true ∧ ((c ≠ 41 ∧ 1 ≤ d ∧ inB p ((d - 1 : Nat) : Int)) ∨ (c ≠ 40 ∧ inB p ((d + 1 : Nat) : Int)))
  op : wop c p (bpair r) = true ↔ ∃ d : Nat, inB p d ∧ c ≠ 41 ∧ can r (d + 1) = true
  cl : wcl c p (bpair r) = true ↔ ∃ d : Nat, inB p d ∧ c ≠ 40 ∧ 0 < d ∧ can r (d - 1) = true
theorem step_ok {c : Nat} {r : List Nat} {p : Int × Int} (hc : c = 40 ∨ c = 41 ∨ c = 63) (hr : IsRow r) (hp : POk p) (hall : ∀ d : Nat, inB p d → can (c :: r) d = true) : Step c r p := by
  obtain ⟨hb, hd⟩ := can_iff r hr
  obtain ⟨lo, hi⟩ := p
  obtain ⟨p1, p2, p3⟩ := hp
  simp only at p1 p2 p3
  have h0 := hall lo.toNat ⟨by simp only; omega, by simp only; omega, by simp only; omega⟩
  have h9 := hall hi.toNat ⟨by simp only; omega, by simp only; omega, by simp only; omega⟩
  rw [can_cons, hd, hd] at h0 h9
  have key : ∀ q : Int × Int, bpair r = q → Step c r (lo, hi) := by
    rintro ⟨le, mo⟩ hq
    rw [hq] at hb hd h0 h9
    simp only [inB] at h0 h9
    have hq2 : 0 ≤ le ∧ le ≤ mo ∧ (mo - le) % 2 = 0 := by
      rcases hb with hb | hb
      · cases hb; omega
      · exact hb
    obtain ⟨q1, q2, q3⟩ := hq2
    have par : (lo + 1 - le) % 2 = 0 := by omega
    have eop : wop c (lo, hi) (le, mo) = true ↔ c ≠ 41 ∧ max (lo + 1) le ≤ min (hi + 1) mo := by simp only [wop, Bool.and_eq_true, decide_eq_true_eq]
    have ecl : wcl c (lo, hi) (le, mo) = true ↔ c ≠ 40 ∧ max (max (lo - 1) le) 0 ≤ min (hi - 1) mo := by simp only [wcl, Bool.and_eq_true, decide_eq_true_eq]
    have hsome : wop c (lo, hi) (le, mo) = true ∨ wcl c (lo, hi) (le, mo) = true := by
      rw [eop, ecl]; omega
    have hmain : POk (snx (wop c (lo, hi) (le, mo)) (wcl c (lo, hi) (le, mo)) (lo, hi) (le, mo)) ∧
        ∀ d : Nat, inB (snx (wop c (lo, hi) (le, mo)) (wcl c (lo, hi) (le, mo)) (lo, hi) (le, mo)) d ↔ can r d = true ∧ ((c ≠ 41 ∧ 1 ≤ d ∧ inB (lo, hi) ((d - 1 : Nat) : Int)) ∨ (c ≠ 40 ∧ inB (lo, hi) ((d + 1 : Nat) : Int))) := by
      cases ho : wop c (lo, hi) (le, mo) with
      | true =>
        have ho' := eop.mp ho
        cases hk : wcl c (lo, hi) (le, mo) with
        | true =>
          have hk' := ecl.mp hk
          have e : snx true true (lo, hi) (le, mo) = (max (dn lo) le, min (hi + 1) mo) := by
            unfold snx; rw [if_neg (by decide), if_neg (by decide)]
          rw [e]
          unfold POk dn
          refine ⟨?_, fun d => ?_⟩
          · simp only; omega
          · rw [hd]; simp only [inB]; omega
        | false =>
          have hk' : ¬ (c ≠ 40 ∧ max (max (lo - 1) le) 0 ≤ min (hi - 1) mo) := fun h => by rw [ecl.mpr h] at hk; cases hk
          have e : snx true false (lo, hi) (le, mo) = (max (lo + 1) le, min (hi + 1) mo) := by
            unfold snx; rw [if_pos (by decide)]
          rw [e]
          unfold POk
          refine ⟨?_, fun d => ?_⟩
          · simp only; omega
          · rw [hd]; simp only [inB]; omega
      | false =>
        have ho' : ¬ (c ≠ 41 ∧ max (lo + 1) le ≤ min (hi + 1) mo) := fun h => by rw [eop.mpr h] at ho; cases ho
        have hk : wcl c (lo, hi) (le, mo) = true := hsome.resolve_left (fun h => by rw [ho] at h; cases h)
        have hk' := ecl.mp hk
        rw [hk]
        have e : snx false true (lo, hi) (le, mo) = (max (dn lo) le, min (hi - 1) mo) := by
          unfold snx; rw [if_neg (by decide), if_pos (by decide)]
        rw [e]
        unfold POk dn
        refine ⟨?_, fun d => ?_⟩
        · simp only; omega
        · rw [hd]; simp only [inB]; omega
    have hop : wop c (lo, hi) (le, mo) = true ↔ ∃ d : Nat, inB (lo, hi) d ∧ c ≠ 41 ∧ can r (d + 1) = true := by
      rw [eop]
      constructor
      · rintro ⟨h1, h2⟩
        refine ⟨(max (lo + 1) le - 1).toNat, ⟨?_, ?_, ?_⟩, h1, (hd _).mpr ⟨?_, ?_, ?_⟩⟩ <;> simp only <;> omega
      · rintro ⟨d, ⟨a1, a2, a3⟩, h1, h2⟩
        obtain ⟨b1, b2, b3⟩ := (hd _).mp h2
        simp only at a1 a2 a3 b1 b2 b3
        exact ⟨h1, by omega⟩
    have hcl : wcl c (lo, hi) (le, mo) = true ↔ ∃ d : Nat, inB (lo, hi) d ∧ c ≠ 40 ∧ 0 < d ∧ can r (d - 1) = true := by
      rw [ecl]
      constructor
      · rintro ⟨h1, h2⟩
        refine ⟨(max (lo - 1) le + 1).toNat, ⟨?_, ?_, ?_⟩, h1, ?_, (hd _).mpr ⟨?_, ?_, ?_⟩⟩ <;> (try simp only) <;> omega
      · rintro ⟨d, ⟨a1, a2, a3⟩, h1, h0, h2⟩
        obtain ⟨b1, b2, b3⟩ := (hd _).mp h2
        simp only at a1 a2 a3 b1 b2 b3
        exact ⟨h1, by omega⟩
    exact ⟨by rw [hq]; exact hsome, by rw [hq]; exact hmain.1, by rw [hq]; exact hmain.2, by rw [hq]; exact hop, by rw [hq]; exact hcl⟩
  exact key _ rfl
/-- w tells what is alike in all words of X -/
def IsSet (X : List Nat → Prop) : List Nat → Prop
  | [] => True
  | x :: w => ((x = 63 ∧ (∃ t, X (40 :: t)) ∧ ∃ t, X (41 :: t)) ∨ (x = 40 ∧ ∀ y t, X (y :: t) → y = 40) ∨ (x = 41 ∧ ∀ y t, X (y :: t) → y = 41)) ∧ IsSet (fun t => ∃ y, X (y :: t)) w
theorem IsSet.uniq : ∀ (w w' : List Nat) (X : List Nat → Prop), IsSet X w → IsSet X w' → w.length = w'.length → (∃ t, X t ∧ t.length = w.length) → w = w'
  | [], [], _, _, _, _, _ => rfl
  | [], _ :: _, _, _, _, h, _ => by simp at h
  | _ :: _, [], _, _, _, h, _ => by simp at h
  | x :: w, x' :: w', X, h1, h2, hl, ⟨t, hX, ht⟩ => by
    cases t with
    | nil => simp at ht
    | cons y t =>
      have e := IsSet.uniq w w' _ h1.2 h2.2 (by simpa using hl) ⟨t, ⟨y, hX⟩, by simpa using ht⟩
      have ex : x = x' := by
        rcases h1.1 with ⟨rfl, ⟨a, ha⟩, b, hb⟩ | ⟨rfl, hy⟩ | ⟨rfl, hy⟩
        · rcases h2.1 with ⟨rfl, _⟩ | ⟨rfl, hy⟩ | ⟨rfl, hy⟩
          · rfl
          · cases hy _ _ hb
          · cases hy _ _ ha
        · rcases h2.1 with ⟨rfl, _, b, hb⟩ | ⟨rfl, hy'⟩ | ⟨rfl, hy'⟩
          · cases hy _ _ hb
          · rfl
          · have := hy _ _ hX; have := hy' _ _ hX; omega
        · rcases h2.1 with ⟨rfl, ⟨a, ha⟩, _⟩ | ⟨rfl, hy'⟩ | ⟨rfl, hy'⟩
          · cases hy _ _ ha
          · have := hy _ _ hX; have := hy' _ _ hX; omega
          · rfl
      rw [e, ex]
theorem setW_len : ∀ (l : List Nat) (p : Int × Int), (setW l p).length = l.length
  | [], _ => rfl
  | c :: r, p => by simp only [setW, List.length_cons, setW_len r]
theorem setW_row : ∀ (l : List Nat) (p : Int × Int), IsRow (setW l p)
  | [], _ => fun c hc => by cases hc
  | c :: r, p => fun x hx => by
    simp only [setW, List.mem_cons] at hx
    rcases hx with rfl | hx
    · unfold ssg
      by_cases h1 : wop c p (bpair r) = true
      · by_cases h2 : wcl c p (bpair r) = true
        · rw [if_pos h1, if_pos h2]; simp
        · rw [if_pos h1, if_neg h2]; simp
      · rw [if_neg h1]; simp
    · exact setW_row r _ x hx
theorem setW_is : ∀ (l : List Nat) (p : Int × Int), IsRow l → POk p → (∀ d : Nat, inB p d → can l d = true) → IsSet (fun t => ∃ d : Nat, inB p d ∧ Fil l d t) (setW l p)
  | [], _, _, _, _ => trivial
  | c :: r, p, hr, hp, hall => by
    have hrr : IsRow r := fun y hy => hr y (List.mem_cons_of_mem _ hy)
    have st := step_ok (hr c List.mem_cons_self) hrr hp hall
    have ih := setW_is r _ hrr st.ok fun d hd => ((st.mem d).mp hd).1
    have tails : (fun t => ∃ y, ∃ d : Nat, inB p d ∧ Fil (c :: r) d (y :: t)) = fun t => ∃ d : Nat, inB (snx (wop c p (bpair r)) (wcl c p (bpair r)) p (bpair r)) d ∧ Fil r d t := by
      funext t
      apply propext
      constructor
      · rintro ⟨y, d, hd, x, t', e, hx⟩
        cases e
        rcases hx with ⟨_, h1, ht⟩ | ⟨_, h1, h0, ht⟩
        · exact ⟨d + 1, (st.mem _).mpr ⟨(can_fil _ _).mpr ⟨_, ht⟩, .inl ⟨h1, by omega, by rw [Nat.add_sub_cancel]; exact hd⟩⟩, ht⟩
        · exact ⟨d - 1, (st.mem _).mpr ⟨(can_fil _ _).mpr ⟨_, ht⟩, .inr ⟨h1, by rw [Nat.sub_add_cancel h0]; exact hd⟩⟩, ht⟩
      · rintro ⟨d, hd, ht⟩
        rcases ((st.mem _).mp hd).2 with ⟨h1, h0, h2⟩ | ⟨h1, h2⟩
        · exact ⟨40, d - 1, h2, 40, t, rfl, .inl ⟨rfl, h1, by rw [Nat.sub_add_cancel h0]; exact ht⟩⟩
        · exact ⟨41, d + 1, h2, 41, t, rfl, .inr ⟨rfl, h1, by omega, by rw [Nat.add_sub_cancel]; exact ht⟩⟩
    refine ⟨?_, by rw [tails]; exact ih⟩
    have h40 : (∃ t, ∃ d : Nat, inB p d ∧ Fil (c :: r) d (40 :: t)) ↔ wop c p (bpair r) = true := by
      rw [st.op]
      constructor
      · rintro ⟨t, d, hd, x, t', e, hx⟩
        cases e
        rcases hx with ⟨_, h1, ht⟩ | ⟨e, _⟩
        · exact ⟨d, hd, h1, (can_fil _ _).mpr ⟨_, ht⟩⟩
        · cases e
      · rintro ⟨d, hd, h1, h2⟩
        obtain ⟨t, ht⟩ := (can_fil _ _).mp h2
        exact ⟨t, d, hd, 40, t, rfl, .inl ⟨rfl, h1, ht⟩⟩
    have h41 : (∃ t, ∃ d : Nat, inB p d ∧ Fil (c :: r) d (41 :: t)) ↔ wcl c p (bpair r) = true := by
      rw [st.cl]
      constructor
      · rintro ⟨t, d, hd, x, t', e, hx⟩
        cases e
        rcases hx with ⟨e, _⟩ | ⟨_, h1, h0, ht⟩
        · cases e
        · exact ⟨d, hd, h1, h0, (can_fil _ _).mpr ⟨_, ht⟩⟩
      · rintro ⟨d, hd, h1, h0, h2⟩
        obtain ⟨t, ht⟩ := (can_fil _ _).mp h2
        exact ⟨t, d, hd, 41, t, rfl, .inr ⟨rfl, h1, h0, ht⟩⟩
    have hy : ∀ y t, (∃ d : Nat, inB p d ∧ Fil (c :: r) d (y :: t)) → y = 40 ∨ y = 41 := by
      rintro y t ⟨d, hd, x, t', e, hx⟩
      cases e
      exact hx.elim (fun h => .inl h.1) fun h => .inr h.1
    cases ho : wop c p (bpair r) with
    | true =>
      cases hk : wcl c p (bpair r) with
      | true => exact .inl ⟨rfl, h40.mpr ho, h41.mpr hk⟩
      | false =>
        refine .inr (.inl ⟨rfl, fun y t h => (hy y t h).resolve_right fun e => ?_⟩)
        subst e
        rw [h41.mp ⟨t, h⟩] at hk; cases hk
    | false =>
      refine .inr (.inr ⟨rfl, fun y t h => (hy y t h).resolve_left fun e => ?_⟩)
      subst e
      rw [h40.mp ⟨t, h⟩] at ho; cases ho
def settledOf (l : List Nat) : List Nat := setW l (0, 0)
theorem settled_is {l : List Nat} (h : IsRow l) (hc : can l 0 = true) : IsSet (fun t => Fil l 0 t) (settledOf l) := by
  have := setW_is l (0, 0) h ⟨by decide, by decide, by decide⟩ fun d hd => by
    obtain ⟨a, b, _⟩ := hd
    simp only at a b
    rw [show d = 0 by omega]; exact hc
  rw [show (fun t => ∃ d : Nat, inB (0, 0) d ∧ Fil l d t) = fun t => Fil l 0 t from ?_] at this
  · exact this
  · funext t
    apply propext
    constructor
    · rintro ⟨d, ⟨a, b, _⟩, ht⟩
      simp only at a b
      rwa [show d = 0 by omega] at ht
    · exact fun ht => ⟨0, ⟨by decide, by decide, by decide⟩, ht⟩
theorem IsSet.fits : ∀ (w t : List Nat) (X : List Nat → Prop), IsSet X w → X t → t.length = w.length → fits w t = true
  | [], t, _, _, _, _ => rfl
  | x :: w, [], _, _, _, h => by simp at h
  | x :: w, y :: t, X, h, hX, hl => by
    rw [fits_cons]
    refine ⟨?_, IsSet.fits w t _ h.2 ⟨y, hX⟩ (by simpa using hl)⟩
    rcases h.1 with ⟨e, _⟩ | ⟨e, hy⟩ | ⟨e, hy⟩
    · exact .inl e
    · exact .inr (e.trans (hy _ _ hX).symm)
    · exact .inr (e.trans (hy _ _ hX).symm)
theorem IsSet.back : ∀ (l w u : List Nat) (X : List Nat → Prop), IsSet X w → (∀ t, X t → t.length = l.length ∧ BR.fits l t = true) → (∃ t, X t) → w.length = l.length → u.length = l.length → BR.fits w u = true → BR.fits l u = true
  | [], _, _, _, _, _, _, _, _, _ => rfl
  | c :: r, [], _, _, _, _, _, h, _, _ => by simp at h
  | c :: r, _ :: _, [], _, _, _, _, _, h, _ => by simp at h
  | c :: r, x :: w, y :: u, X, h, hf, ⟨t, ht⟩, hw, hu, hfu => by
    obtain ⟨f1, f2⟩ := (fits_cons ..).mp hfu
    have h1 := hf t ht
    cases t with
    | nil => simp at h1
    | cons z t =>
      have hz := (fits_cons ..).mp h1.2
      rw [fits_cons]
      refine ⟨?_, IsSet.back r w u _ h.2 ?_ ⟨t, z, ht⟩ (by simpa using hw) (by simpa using hu) f2⟩
      · by_cases h63 : c = 63
        · exact .inl h63
        · right
          have hcz : c = z := hz.1.resolve_left h63
          rcases h.1 with ⟨e, ⟨a, ha⟩, b, hb⟩ | ⟨e, hy⟩ | ⟨e, hy⟩
          · have h4 := ((fits_cons ..).mp (hf _ ha).2).1
            have h5 := ((fits_cons ..).mp (hf _ hb).2).1
            omega
          · have := hy _ _ ht; omega
          · have := hy _ _ ht; omega
      · rintro t' ⟨y', hy'⟩
        obtain ⟨a1, a2⟩ := hf _ hy'
        exact ⟨by simpa using a1, ((fits_cons ..).mp a2).2⟩
/-- the settled row has the same fillings -/
theorem settled_fil {l : List Nat} (h : IsRow l) (hc : can l 0 = true) (t : List Nat) : Fil (settledOf l) 0 t ↔ Fil l 0 t := by
  have hs := settled_is h hc
  have hl : (settledOf l).length = l.length := setW_len _ _
  rw [Fil_iff (settledOf l) 0 t (setW_row _ _)]
  constructor
  · rintro ⟨h1, h2, h3⟩
    refine (Fil_iff l 0 t h).mpr ⟨by omega, ?_, h3⟩
    exact IsSet.back l (settledOf l) t _ hs (fun u hu => by obtain ⟨a, b, _⟩ := (Fil_iff l 0 u h).mp hu; exact ⟨a, b⟩) ((can_fil _ _).mp hc) hl (by omega) h2
  · intro ht
    obtain ⟨h1, h2, h3⟩ := (Fil_iff l 0 t h).mp ht
    exact ⟨by omega, IsSet.fits _ _ _ hs ht (by omega), h3⟩
theorem settled_can {l : List Nat} (h : IsRow l) (hc : can l 0 = true) : can (settledOf l) 0 = true := by
  obtain ⟨t, ht⟩ := (can_fil _ _).mp hc
  exact (can_fil _ _).mpr ⟨t, (settled_fil h hc t).mpr ht⟩
theorem settled_idem {l : List Nat} (h : IsRow l) (hc : can l 0 = true) : settledOf (settledOf l) = settledOf l := by
  have h1 := settled_is (setW_row l (0, 0)) (settled_can h hc)
  have h2 := settled_is h hc
  have e : (fun t => Fil (setW l (0, 0)) 0 t) = fun t => Fil l 0 t := funext fun t => propext (settled_fil h hc t)
  rw [e] at h1
  obtain ⟨t, ht⟩ := (can_fil _ _).mp hc
  refine IsSet.uniq _ _ _ h1 h2 (setW_len _ _) ⟨t, ht, ?_⟩
  rw [((Fil_iff l 0 t h).mp ht).1]
  show _ = (setW (setW l (0, 0)) (0, 0)).length
  rw [setW_len, setW_len]
theorem first_settled {l : List Nat} (h : IsRow l) (hc : can l 0 = true) : greedy true (settledOf l) 0 = greedy true l 0 := by
  have hs := settled_can h hc
  have hr : IsRow (settledOf l) := setW_row _ _
  have a := greedy_fil true _ 0 hr hs
  have b := greedy_fil true _ 0 h hc
  refine lle_anti _ _ ?_ (greedy_first _ 0 _ hr ((settled_fil h hc _).mpr b)) (greedy_first _ 0 _ h ((settled_fil h hc _).mp a))
  rw [greedy_len, greedy_len]; exact setW_len _ _
theorem last_settled {l : List Nat} (h : IsRow l) (hc : can l 0 = true) : greedy false (settledOf l) 0 = greedy false l 0 := by
  have hs := settled_can h hc
  have hr : IsRow (settledOf l) := setW_row _ _
  have a := greedy_fil false _ 0 hr hs
  have b := greedy_fil false _ 0 h hc
  refine lle_anti _ _ ?_ (greedy_last _ 0 _ h ((settled_fil h hc _).mp a)) (greedy_last _ 0 _ hr ((settled_fil h hc _).mpr b))
  rw [greedy_len, greedy_len]; exact setW_len _ _
/-- a filling fills itself alone -/
theorem self_fil {t : List Nat} (h : run 0 t = some 0) (u : List Nat) : Fil t 0 u ↔ u = t := by
  have hb := run_br t 0 0 h
  rw [Fil_iff t 0 u hb.row]
  constructor
  · rintro ⟨h1, h2, _⟩
    have : ∀ (t u : List Nat), Br t → u.length = t.length → fits t u = true → u = t := by
      intro t
      induction t with
      | nil => intro u _ h _; exact List.length_eq_zero_iff.mp h
      | cons c r ih =>
        intro u hb h hf
        cases u with
        | nil => simp at h
        | cons y u =>
          obtain ⟨f1, f2⟩ := (fits_cons ..).mp hf
          have hc := hb c List.mem_cons_self
          rw [ih u (fun x hx => hb x (List.mem_cons_of_mem _ hx)) (by simpa using h) f2, f1.resolve_left (by omega)]
    exact this t u hb h1 h2
  · rintro rfl
    refine ⟨rfl, ?_, h⟩
    have : ∀ t : List Nat, fits t t = true := by
      intro t
      induction t with
      | nil => rfl
      | cons c r ih => exact (fits_cons ..).mpr ⟨.inr rfl, ih⟩
    exact this u
theorem settled_self {t : List Nat} (h : run 0 t = some 0) : can t 0 = true ∧ settledOf t = t := by
  have hb := run_br t 0 0 h
  have hc : can t 0 = true := (can_fil _ _).mpr ⟨t, (self_fil h t).mpr rfl⟩
  refine ⟨hc, ?_⟩
  have h1 := settled_is hb.row hc
  have e : (fun u => Fil t 0 u) = fun u => u = t := funext fun u => propext (self_fil h u)
  rw [e] at h1
  have : ∀ (t : List Nat), Br t → ∀ X : List Nat → Prop, (∀ u, X u → u = t) → IsSet X t := by
    intro t
    induction t with
    | nil => intros; trivial
    | cons c r ih =>
      intro hb X hX
      refine ⟨?_, ih (fun x hx => hb x (List.mem_cons_of_mem _ hx)) _ ?_⟩
      · rcases hb c List.mem_cons_self with rfl | rfl
        · exact .inr (.inl ⟨rfl, fun y u hu => by have := hX _ hu; cases this; rfl⟩)
        · exact .inr (.inr ⟨rfl, fun y u hu => by have := hX _ hu; cases this; rfl⟩)
      · rintro u ⟨y, hu⟩
        have := hX _ hu; cases this; rfl
  exact IsSet.uniq _ _ _ h1 (this t hb _ fun u hu => hu) (setW_len _ _) ⟨t, rfl, (setW_len _ _).symm⟩
theorem last_test {r : List Nat} {d : Nat} (hr : IsRow r) (h : can (63 :: r) d = true) : ((bpair r).1 ≤ (d : Int) - 1 ∧ (d : Int) - 1 ≤ (bpair r).2) ↔ (decide (0 < d) && can r (d - 1)) = true := by
  obtain ⟨hb, hd⟩ := can_iff r hr
  rw [can_cons, hd, hd] at h
  rw [Bool.and_eq_true, decide_eq_true_eq, hd]
  generalize bpair r = q at *
  obtain ⟨lo, hi⟩ := q
  simp only [inB] at h ⊢
  rcases hb with hb | ⟨b1, b2, b3⟩
  · cases hb; omega
  · simp only at b1 b2 b3
    omega
theorem greedy_cons (op : Bool) (c : Nat) (r : List Nat) (d : Nat) : greedy op (c :: r) d = gsign op c r d :: greedy op r (if gsign op c r d = 40 then d + 1 else d - 1) := rfl
/-! ### what tells that nothing fills -/
theorem fits_count41 : ∀ (l t : List Nat) (m : Nat), t.length = l.length → fits l t = true → (l.take m).count 41 ≤ (t.take m).count 41
  | [], _, _, _, _ => by simp
  | c :: r, [], _, h, _ => by simp at h
  | c :: r, x :: t, 0, _, _ => by simp
  | c :: r, x :: t, m + 1, h, hf => by
    obtain ⟨f1, f2⟩ := (fits_cons ..).mp hf
    have ih := fits_count41 r t m (by simpa using h) f2
    rw [List.take_succ_cons, List.take_succ_cons, List.count_cons, List.count_cons]
    by_cases hc : c = 41
    · have : x = 41 := by omega
      subst hc this
      simp; omega
    · have : (c == 41) = false := beq_eq_false_iff_ne.mpr hc
      simp only [this]
      simp; omega
theorem fits_count40 : ∀ (l t : List Nat) (m : Nat), t.length = l.length → fits l t = true → (l.drop m).count 40 ≤ (t.drop m).count 40
  | [], _, _, _, _ => by simp
  | c :: r, [], _, h, _ => by simp at h
  | c :: r, x :: t, 0, h, hf => by
    obtain ⟨f1, f2⟩ := (fits_cons ..).mp hf
    have ih := fits_count40 r t 0 (by simpa using h) f2
    simp only [List.drop_zero] at ih ⊢
    rw [List.count_cons, List.count_cons]
    by_cases hc : c = 40
    · have : x = 40 := by omega
      subst hc this
      simp; omega
    · have : (c == 40) = false := beq_eq_false_iff_ne.mpr hc
      simp only [this]
      simp; omega
  | c :: r, x :: t, m + 1, h, hf => by
    obtain ⟨f1, f2⟩ := (fits_cons ..).mp hf
    rw [List.drop_succ_cons, List.drop_succ_cons]
    exact fits_count40 r t m (by simpa using h) f2
theorem count2 (t : List Nat) (h : Br t) : t.count 40 + t.count 41 = t.length := by
  have h3 := count3 t h.row
  have : t.count 63 = 0 := List.count_eq_zero.mpr fun hm => by rcases h 63 hm with e | e <;> cases e
  omega
theorem can_even {l : List Nat} (h : IsRow l) (hc : can l 0 = true) : l.length % 2 = 0 ∧ (∀ m, m ≤ l.length → 2 * (l.take m).count 41 ≤ m) ∧ ∀ m, m ≤ l.length → 2 * (l.drop (l.length - m)).count 40 ≤ m := by
  obtain ⟨t, ht⟩ := (can_fil _ _).mp hc
  obtain ⟨h1, h2, h3⟩ := (Fil_iff l 0 t h).mp ht
  have hb := run_br t 0 0 h3
  refine ⟨by have := run_even t 0 0 h3; omega, fun m hm => ?_, fun m hm => ?_⟩
  · have a := fits_count41 l t m h1 h2
    have b := Dp_nonneg h3 m
    unfold Dp at b
    have hbt : Br (t.take m) := fun c hc => hb c (List.mem_of_mem_take hc)
    rw [fin_count _ hbt] at b
    have c := count2 _ hbt
    rw [List.length_take] at c
    omega
  · have a := fits_count40 l t (l.length - m) h1 h2
    have b := Dp_nonneg h3 (l.length - m)
    have e := Dp_end h3
    unfold Dp at b e
    rw [List.take_length] at e
    have hbt : Br (t.take (l.length - m)) := fun c hc => hb c (List.mem_of_mem_take hc)
    have hbd : Br (t.drop (l.length - m)) := fun c hc => hb c (List.mem_of_mem_drop hc)
    rw [← List.take_append_drop (l.length - m) t, fin_app, fin_add, fin_count _ hbd] at e
    have c := count2 _ hbd
    rw [List.length_drop] at c
    omega
end BR

set_option Elab.async false
set_option linter.all false
set_option maxRecDepth 100000
set_option maxHeartbeats 4000000
namespace HT
open PySem PySem.Spec PyProof.Rows L2 BR
local macro_rules | `(tactic| walk_at "sq") => `(tactic| first | exact SqL.of (by assumption) | exact SqL.of upd_same | exact SqT.of (by assumption) | exact SqT.of upd_same | assumption | exact Same.seq (by assumption) (by assumption) | exact Same.seq (Same.trans (by assumption) (by assumption)) (by assumption))
local macro_rules | `(tactic| walk_at "len") => `(tactic| (simp only [List.length_append, List.length_map, List.length_cons, List.length_nil, List.length_set, List.length_replicate, List.length_take, List.length_drop, List.length_reverse, List.length_range, dpi_len, dps_len, len_S]; omega))
local macro_rules | `(tactic| walk_at "g1") => `(tactic| first
  | refine ⟨_, rfl, ?_⟩
  | refine ⟨rfl, ?_⟩
  | refine ⟨_, _, rfl, rfl, @id.{0} _ (by first | decide | omega | exact ⟨by decide, by decide⟩ | exact .inr ⟨by decide, by decide⟩ | (show (0 : Int) < _; decide)), ?_⟩
  | refine ⟨_, _, rfl, rfl, ?_⟩
  | refine ⟨_, _, _, _, rfl, rfl, (by walk_at "sq"), (by first | exact atI_last _ _ | (with_reducible exact atI_nat (by assumption))), ?_⟩
  | refine ⟨.inl ⟨rfl, _, (by walk_at "sq")⟩, ?_⟩
  | refine ⟨_, _, rfl, (by first | exact .inl (by walk_at "sq") | exact .inr (by walk_at "sq")), ?_⟩
  | refine ⟨_, rfl, (by first | exact sz5 (by walk_at "len") | exact szS (by omega)), ?_⟩
  | refine ⟨_, _, _, rfl, rfl, (by assumption), sz5l (by walk_at "len"), ?_⟩)
local macro_rules | `(tactic| walk_at "go") => `(tactic| repeat walk_at "g1")
local macro_rules | `(tactic| walk_at "nxt") => `(tactic| (show tSeq Ends.nx _ _ _ _; refine nx_in ?_))

section
variable {P : Program} {w : World} {K : PySem.W.Frag} {mg : Str → Option Value} {base : Heap}
def PairsAt (H : Hp) (L : List (Addr × (Int × Int))) : Prop := ∀ e ∈ L, H e.1 = some (.tup [.int e.2.1, .int e.2.2])
def spBehind (T : Txt K mg) : Sp := fun vs H Q _ => ∃ l, vs = [S l] ∧ l.length ≤ 80000 ∧ IsRow l ∧ ∀ H' p L, Same H H' → H p = none → H' p = some (.lst (L.map fun e : Addr × (Int × Int) => V.ref e.1)) → PairsAt H' L → L.map (·.2) = bps l → Q (.ref p) H'
theorem okBehind (T : Txt K mg) : FnOk P w K mg base CX0 1 T.f_behind.a T.f_behind.fd ["row"] (spBehind T) := by
  refine T.f_behind.F.ok scBehind (fun vs H Q E h => ?_) (fun cdv A outer s H vs Q E hr h => ?_)
  · obtain ⟨l, rfl, _⟩ := h
    rfl
  · obtain ⟨l, rfl, hl, hrw, q⟩ := h
    refine ⟨_, (pss_cons (ps_set (i := 1) scBehind.nd rfl (by first | exact Or.inl rfl | exact Or.inr rfl) (pe_lst (pa_cons (pe_tup (pa_cons pe_int (pa_cons pe_int pa_nil))) pa_nil)))
      (pss_cons (ps_for PassesOwn.never rfl (pi_revS (by rfl) T.n_reversed (pa_cons (pv 0) pa_nil)) (pg_name (i := 2) scBehind.nd rfl (by first | exact Or.inl rfl | exact Or.inr rfl))
      (pss_cons (ps_asg (pe_ix ix_list (pv 1) (pe_un un_neg pe_int) (fun _ _ => rfl)) (pg_tup rfl (pgs_cons (pg_name (i := 3) scBehind.nd rfl (by first | exact Or.inl rfl | exact Or.inr rfl)) (pgs_cons (pg_name (i := 4) scBehind.nd rfl (by first | exact Or.inl rfl | exact Or.inr rfl)) pgs_nil))))
      (pss_one (ps_if (PW.pt (pw_and (pt_cmpR op_le (pv 3) (pv 4) (nomark _)) (pw_and1 (pt_cmpR op_eq (pv 2) pe_str (nomark _))))) (pss_one (ps_expr (pe_bm PySem.F.plainAttrs_list PySem.F.slot_list_append PySem.F.type_list_append mt_append (pv 1) (pa_cons (pe_tup (pa_cons (pe_op op_add (pv 3) pe_int) (pa_cons (pe_op op_add (pv 4) pe_int) pa_nil))) pa_nil))))
      (pss_one (ps_if (PW.pt (pw_and (pt_cmpR op_le (pv 3) (pv 4) (nomark _)) (pw_and1 (pt_cmpR op_eq (pv 2) pe_str (nomark _))))) (pss_one (ps_expr (pe_bm PySem.F.plainAttrs_list PySem.F.slot_list_append PySem.F.type_list_append mt_append (pv 1) (pa_cons (pe_tup (pa_cons (pe_ifExp (pt_cmpR op_gt (pv 3) pe_int (nomark _)) (pe_op op_sub (pv 3) pe_int) (pe_op op_add (pv 3) pe_int)) (pa_cons (pe_op op_add (pv 4) pe_int) pa_nil))) pa_nil))))
      (pss_one (ps_if (PW.pt (pw_and (pt_cmpR op_le (pv 3) (pv 4) (nomark _)) (pw_and1 (pt_cmpR op_gt (pv 4) pe_int (nomark _))))) (pss_one (ps_expr (pe_bm PySem.F.plainAttrs_list PySem.F.slot_list_append PySem.F.type_list_append mt_append (pv 1) (pa_cons (pe_tup (pa_cons (pe_ifExp (pt_cmpR op_gt (pv 3) pe_int (nomark _)) (pe_op op_sub (pv 3) pe_int) (pe_op op_add (pv 3) pe_int)) (pa_cons (pe_op op_sub (pv 4) pe_int) pa_nil))) pa_nil))))
      (pss_one (ps_expr (pe_bm PySem.F.plainAttrs_list PySem.F.slot_list_append PySem.F.type_list_append mt_append (pv 1) (pa_cons (pe_tup (pa_cons pe_int (pa_cons pe_int pa_nil))) pa_nil))))))))))))
      (pss_one (ps_ret (pe_revL (pv 1)))))), ?_⟩
    refine ⟨sz5 (by simp), fun p0 np0 => ⟨sz5 (by simp), fun o no => ?_⟩⟩
    have s0 := (Same.new np0 (o := HO.tup [V.int 0, V.int 0]))
    have ho0 : H o = none := s0.free no
    refine ⟨_, rfl, St_ l, rfl, szS (by omega), for_rtxt (l := l) (fun s σ H' => ∃ x2 x3 x4 L, σ = [some (S l), some (.ref o), x2, x3, x4] ∧ Same H H' ∧ H' o = some (.lst (L.map fun e : Addr × (Int × Int) => V.ref e.1)) ∧ PairsAt H' L ∧ L.map (·.2) = (bps s).reverse ∧ s.length ≤ l.length)
      ⟨none, none, none, [(p0, (0, 0))], rfl, s0.trans (Same.new no), upd_same, ?_, rfl, Nat.zero_le _⟩ ?_ ?_⟩
    · intro e he
      cases List.mem_singleton.mp he
      exact Same.new no _ _ upd_same
    · rintro p c s σ H3 e ⟨x2, x3, x4, L, rfl, sm, g, hP, hL, hs⟩
      have hc : c = 40 ∨ c = 41 ∨ c = 63 := hrw c (by rw [e]; simp)
      have hs1 : s.length + 1 ≤ l.length := by rw [e]; simp
      obtain ⟨bt, hbt⟩ := bps_head s
      obtain ⟨L0, a, rfl, hL0⟩ := last_of (A := bt.reverse) (q := bpair s) (by rw [hL, hbt, List.reverse_cons])
      have ht : H3 a = some (.tup [.int (bpair s).1, .int (bpair s).2]) := hP (a, bpair s) (by simp)
      have hlen : (L0 ++ [(a, bpair s)]).length = s.length + 1 := by
        have := congrArg List.length hL
        rw [List.length_map, List.length_reverse, bps_len] at this
        exact this
      have hge : (L0 ++ [(a, bpair s)]).map (fun e : Addr × (Int × Int) => V.ref e.1) = L0.map (fun e => V.ref e.1) ++ [V.ref a] := by rw [List.map_append]; rfl
      have fin : ∀ (pt : Addr) (lo hi : Int), H3 pt = none → (lo, hi) = bpair (c :: s) → ∃ y2 y3 y4 L', ([some (S l), some (.ref o), some (ch c), some (.int (bpair s).1), some (.int (bpair s).2)] : L2.St) = [some (S l), some (.ref o), y2, y3, y4] ∧ Same H (upd (upd H3 pt (.tup [.int lo, .int hi])) o (.lst ((L0 ++ [(a, bpair s)]).map (fun e : Addr × (Int × Int) => V.ref e.1) ++ [V.ref pt]))) ∧
          (upd (upd H3 pt (.tup [.int lo, .int hi])) o (.lst ((L0 ++ [(a, bpair s)]).map (fun e : Addr × (Int × Int) => V.ref e.1) ++ [V.ref pt]))) o = some (.lst (L'.map fun e : Addr × (Int × Int) => V.ref e.1)) ∧
          PairsAt (upd (upd H3 pt (.tup [.int lo, .int hi])) o (.lst ((L0 ++ [(a, bpair s)]).map (fun e : Addr × (Int × Int) => V.ref e.1) ++ [V.ref pt]))) L' ∧ L'.map (·.2) = (bps (c :: s)).reverse ∧ (c :: s).length ≤ l.length := by
        intro pt lo hi npt eq
        have st := Same.new npt (o := HO.tup [V.int lo, V.int hi])
        have hpo : pt ≠ o := fun h => by rw [h, g] at npt; cases npt
        refine ⟨_, _, _, (L0 ++ [(a, bpair s)]) ++ [(pt, (lo, hi))], rfl, (sm.trans st).mut ho0, ?_, ?_, ?_, hs1⟩
        · rw [upd_same]; simp
        · intro e he
          rcases List.mem_append.mp he with he | he
          · have h1 := hP e he
            have : e.1 ≠ o := fun h => by rw [h, g] at h1; cases h1
            rw [upd_ne this]
            exact st _ _ h1
          · cases List.mem_singleton.mp he
            rw [upd_ne hpo]
            exact upd_same
        · rw [List.map_append, hL, eq]
          show (bps s).reverse ++ [bpair (c :: s)] = (bpair (c :: s) :: bps s).reverse
          rw [List.reverse_cons]
      have app : ∀ (pt : Addr) (lo hi : Int), H3 pt = none → (upd H3 pt (.tup [.int lo, .int hi])) o = some (.lst ((L0 ++ [(a, bpair s)]).map (fun e : Addr × (Int × Int) => V.ref e.1))) := fun pt lo hi npt => Same.new npt _ _ g
      have hsz : ((L0 ++ [(a, bpair s)]).map (fun e : Addr × (Int × Int) => V.ref e.1)).length < sizeLine := sz5l (by rw [List.length_map, hlen]; omega)
      refine ⟨_, rfl, 1, rfl, _, _, _, _, rfl, rfl, SqL.of g, (by rw [hge]; exact atI_last _ _), ?_⟩
      refine g2 ht ?_
      generalize hq : bpair s = pq at *
      obtain ⟨lo, hi⟩ := pq
      have hstep : bpair (c :: s) = bstep c (lo, hi) := by show bstep c (bpair s) = _; rw [hq]
      rw [hstep] at fin
      refine ⟨_, rfl, _, rfl, _, _, rfl, rfl, _, rfl, ?_⟩
      have n41 : c ≠ 41 → ¬ ch c = V.str (Str.ofString ")") := fun h e => h ((eq_cl c).mp e)
      have n63 : c ≠ 63 → ¬ ch c = V.str (Str.ofString "?") := fun h e => h ((eq_qu c).mp e)
      by_cases hle : lo ≤ hi
      · refine iteD hle ⟨_, rfl, rfl, _, rfl, ?_⟩
        by_cases h41 : c = 41
        · subst h41
          refine iteD ((eq_cl 41).mpr rfl) ⟨_, rfl, .inl ⟨rfl, _, SqL.of g⟩, _, rfl, _, _, rfl, rfl, _, rfl, _, _, rfl, rfl, sz5 (by simp), fun pt npt => ⟨_, _, _, rfl, rfl, app pt _ _ npt, hsz, fin pt _ _ npt ?_⟩⟩
          unfold bstep
          rw [if_pos ⟨hle, rfl⟩]
        · refine iteDn (n41 h41) ⟨_, rfl, _, rfl, _, _, rfl, rfl, _, rfl, iteD hle ⟨_, rfl, rfl, _, rfl, ?_⟩⟩
          by_cases h63 : c = 63
          · subst h63
            refine iteD ((eq_qu 63).mpr rfl) ⟨_, rfl, .inl ⟨rfl, _, SqL.of g⟩, _, rfl, _, _, rfl, rfl, _, rfl, ?_⟩
            have eq : (dn lo, hi + 1) = bstep 63 (lo, hi) := by
              unfold bstep
              rw [if_neg (by omega), if_pos ⟨hle, rfl⟩]
            by_cases h0 : 0 < lo
            · rw [show dn lo = lo - 1 by unfold dn; rw [if_pos h0]] at eq
              exact iteD h0 ⟨_, rfl, _, _, rfl, rfl, _, rfl, _, _, rfl, rfl, sz5 (by simp), fun pt npt => ⟨_, _, _, rfl, rfl, app pt _ _ npt, hsz, fin pt _ _ npt eq⟩⟩
            · rw [show dn lo = lo + 1 by unfold dn; rw [if_neg h0]] at eq
              exact iteDn h0 ⟨_, rfl, _, _, rfl, rfl, _, rfl, _, _, rfl, rfl, sz5 (by simp), fun pt npt => ⟨_, _, _, rfl, rfl, app pt _ _ npt, hsz, fin pt _ _ npt eq⟩⟩
          · refine iteDn (n63 h63) ⟨_, rfl, _, rfl, _, _, rfl, rfl, _, rfl, iteD hle ⟨_, rfl, _, _, rfl, rfl, _, rfl, ?_⟩⟩
            by_cases hh : 0 < hi
            · refine iteD hh ⟨_, rfl, .inl ⟨rfl, _, SqL.of g⟩, _, rfl, _, _, rfl, rfl, _, rfl, ?_⟩
              have eq : (dn lo, hi - 1) = bstep c (lo, hi) := by
                unfold bstep
                rw [if_neg (by omega), if_neg (by omega), if_pos ⟨hle, hh⟩]
              by_cases h0 : 0 < lo
              · rw [show dn lo = lo - 1 by unfold dn; rw [if_pos h0]] at eq
                exact iteD h0 ⟨_, rfl, _, _, rfl, rfl, _, rfl, _, _, rfl, rfl, sz5 (by simp), fun pt npt => ⟨_, _, _, rfl, rfl, app pt _ _ npt, hsz, fin pt _ _ npt eq⟩⟩
              · rw [show dn lo = lo + 1 by unfold dn; rw [if_neg h0]] at eq
                exact iteDn h0 ⟨_, rfl, _, _, rfl, rfl, _, rfl, _, _, rfl, rfl, sz5 (by simp), fun pt npt => ⟨_, _, _, rfl, rfl, app pt _ _ npt, hsz, fin pt _ _ npt eq⟩⟩
            · refine iteDn hh ⟨_, rfl, .inl ⟨rfl, _, SqL.of g⟩, sz5 (by simp), fun pt npt => ⟨_, _, _, rfl, rfl, app pt _ _ npt, hsz, fin pt _ _ npt ?_⟩⟩
              unfold bstep
              rw [if_neg (by omega), if_neg (by omega), if_neg (fun h => hh h.2)]
      · refine iteDn hle ⟨_, rfl, _, rfl, _, _, rfl, rfl, _, rfl, iteDn hle ⟨_, rfl, _, rfl, _, _, rfl, rfl, _, rfl, iteDn hle ?_⟩⟩
        refine ⟨_, rfl, .inl ⟨rfl, _, SqL.of g⟩, sz5 (by simp), fun pt npt => ⟨_, _, _, rfl, rfl, app pt _ _ npt, hsz, fin pt _ _ npt ?_⟩⟩
        unfold bstep
        rw [if_neg (fun h => hle h.1), if_neg (fun h => hle h.1), if_neg (fun h => hle h.1)]
    · rintro σ H3 ⟨x2, x3, x4, L, rfl, sm, g, hP, hL, hs⟩
      refine ⟨_, rfl, o, _, rfl, SqL.of g, fun p np => q _ p L.reverse (sm.trans (Same.new np)) (sm.free np) ?_ ?_ ?_⟩
      · rw [upd_same, List.map_reverse]
      · intro e he
        exact Same.new np _ _ (hP e (List.mem_reverse.mp he))
      · rw [List.map_reverse, hL, List.reverse_reverse]
/-- what a door answers that wants a row with a filling -/
def Asks (T : Txt K mg) (v : V) (H : Hp) (E : XK) (k : List Nat → Prop) : Prop :=
  (∃ l, v = S l ∧ l.length ≤ 80000 ∧ (¬ IsRow l → E (.ref T.c_BadRow) none H) ∧ (IsRow l → can l 0 = false → ∀ H', Same H H' → E (.ref T.c_NoFilling) none H') ∧ (IsRow l → can l 0 = true → k l)) ∨ (NotS K H v ∧ E (.ref T.c_BadRow) none H)
def spAskedFilling (T : Txt K mg) : Sp := fun vs H Q E => ∃ v, vs = [v] ∧ Asks T v H E fun _ => ∀ H', Same H H' → Q .non H'
theorem okAskedFilling (T : Txt K mg) : FnOk P w K mg base (L2N.CX P w) 3 T.f_asked_filling.a T.f_asked_filling.fd ["row"] (spAskedFilling T) := by
  refine T.f_asked_filling.F.okXN scAskedFilling (fun vs H Q E h => ?_) (fun cdv A outer s H vs Q E hr h => ?_)
  · obtain ⟨v, rfl, _⟩ := h
    rfl
  · obtain ⟨v, rfl, h⟩ := h
    refine ⟨_, (pss_cons (ps_expr (pe_call (okAskedRow T) (hr.mono (by decide)) (by rfl) T.f_asked_row.g T.f_asked_row.F.kp T.f_asked_row.b .nil (L2N.passes_call (L2N.takes_of rfl rfl rfl rfl) (fun _ _ _ _ h => h)) (pa_cons (pv 0) pa_nil)))
      (pss_one (ps_if (pt_cmpR op_ne (pe_ix ix_tup (pe_ix ix_list (pe_call (okBehind T) (hr.mono (by decide)) (by rfl) T.f_behind.g T.f_behind.F.kp T.f_behind.b .nil pass0 (pa_cons (pv 0) pa_nil)) pe_int (fun _ _ => rfl)) pe_int (fun _ _ => rfl)) pe_int (nomark _)) (pss_one (L2N.ps_raise rfl (L2N.takes_of rfl rfl rfl rfl) (L2N.pmk_own PySem.F.excBase_ValueError T.x_NoFilling T.g_NoFilling T.k_NoFilling (raises_own T.b_NoFilling T.t_NoFilling) (by rfl))))
      pss_nil))), ?_⟩
    rcases h with ⟨l, rfl, hl, q1, q2, q3⟩ | ⟨hn, q⟩
    · refine ⟨_, rfl, S l, rfl, .inl ⟨l, rfl, by omega, fun hrw => ?_, q1⟩⟩
      refine ⟨_, rfl, l, rfl, hl, hrw, fun H1 p L s1 np hp hP hL => ?_⟩
      obtain ⟨a, ha⟩ := get_of hL (bps_get l 0 (Nat.zero_le _))
      rw [List.drop_zero] at ha
      refine ⟨p, _, 0, .ref a, rfl, rfl, SqL.of hp, atI_nat (j := 0) (by rw [List.getElem?_map, ha]; rfl), a, _, 0, _, rfl, rfl, SqT.of (hP _ (List.mem_of_getElem? ha)), atI_nat (j := 0) rfl, rfl, _, rfl, ?_⟩
      rw [d_int]
      cases hc : can l 0 with
      | true =>
        rw [decide_eq_true ((can_zero hrw).mp hc)]
        exact iteF (q3 hrw hc _ s1)
      | false =>
        rw [decide_eq_false (fun h => by rw [(can_zero hrw).mpr h] at hc; cases hc)]
        exact iteT (q2 hrw hc _ s1)
    · exact ⟨_, rfl, v, rfl, .inr ⟨hn, q⟩⟩
def spFirst (T : Txt K mg) : Sp := fun vs H Q E => ∃ v, vs = [v] ∧ Asks T v H E fun l => ∀ H', Same H H' → Q (S (greedy true l 0)) H'
theorem okFirst (T : Txt K mg) : FnOk P w K mg base (L2N.CX P w) 4 T.f_first.a T.f_first.fd ["row"] (spFirst T) := by
  refine T.f_first.F.okXN scFirst (fun vs H Q E h => ?_) (fun cdv A outer s H vs Q E hr h => ?_)
  · obtain ⟨v, rfl, _⟩ := h
    rfl
  · obtain ⟨v, rfl, h⟩ := h
    refine ⟨_, (pss_cons (ps_expr (pe_call (okAskedFilling T) (hr.mono (by decide)) (by rfl) T.f_asked_filling.g T.f_asked_filling.F.kp T.f_asked_filling.b .nil (L2N.passes_call (L2N.takes_of rfl rfl rfl rfl) (fun _ _ _ _ h => h)) (pa_cons (pv 0) pa_nil)))
      (pss_one (ps_ret (pe_call (okEarliest T) (hr.mono (by decide)) (by rfl) T.f_earliest.g T.f_earliest.F.kp T.f_earliest.b .nil pass0 (pa_cons (pv 0) pa_nil))))), ?_⟩
    rcases h with ⟨l, rfl, hl, q1, q2, q3⟩ | ⟨hn, q⟩
    · refine ⟨_, rfl, S l, rfl, .inl ⟨l, rfl, hl, q1, q2, fun hrw hc H1 s1 => ?_⟩⟩
      obtain ⟨e1, e2⟩ := earliest_greedy hrw hc
      refine ⟨_, rfl, l, rfl, by omega, e1, fun H2 s2 => ?_⟩
      rw [e2]
      exact q3 hrw hc _ (s1.trans s2)
    · exact ⟨_, rfl, v, rfl, .inr ⟨hn, q⟩⟩
def spLast (T : Txt K mg) : Sp := fun vs H Q E => ∃ v, vs = [v] ∧ Asks T v H E fun l => ∀ H', Same H H' → Q (S (greedy false l 0)) H'
theorem okLast (T : Txt K mg) : FnOk P w K mg base (L2N.CX P w) 5 T.f_last.a T.f_last.fd ["row"] (spLast T) := by
  refine T.f_last.F.okXN scLast (fun vs H Q E h => ?_) (fun cdv A outer s H vs Q E hr h => ?_)
  · obtain ⟨v, rfl, _⟩ := h
    rfl
  · obtain ⟨v, rfl, h⟩ := h
    refine ⟨_, (pss_cons (ps_expr (pe_call (okAskedFilling T) (hr.mono (by decide)) (by rfl) T.f_asked_filling.g T.f_asked_filling.F.kp T.f_asked_filling.b .nil (L2N.passes_call (L2N.takes_of rfl rfl rfl rfl) (fun _ _ _ _ h => h)) (pa_cons (pv 0) pa_nil)))
      (PSs.nox (pss_cons (ps_set (i := 1) scLast.nd rfl (by first | exact Or.inl rfl | exact Or.inr rfl) (pe_call (okBehind T) (hr.mono (by decide)) (by rfl) T.f_behind.g T.f_behind.F.kp T.f_behind.b .nil pass0 (pa_cons (pv 0) pa_nil)))
      (pss_cons (ps_set (i := 2) scLast.nd rfl (by first | exact Or.inl rfl | exact Or.inr rfl) pe_int)
      (pss_cons (ps_set (i := 3) scLast.nd rfl (by first | exact Or.inl rfl | exact Or.inr rfl) (pe_lst pa_nil))
      (pss_cons (ps_for PassesOwn.never rfl (pi_enumS (by rfl) T.n_enumerate (pa_cons (pv 0) pa_nil)) (pg_tup rfl (pgs_cons (pg_name (i := 4) scLast.nd rfl (by first | exact Or.inl rfl | exact Or.inr rfl)) (pgs_cons (pg_name (i := 5) scLast.nd rfl (by first | exact Or.inl rfl | exact Or.inr rfl)) pgs_nil)))
      (pss_cons (ps_asg (pe_ix ix_list (pv 1) (pe_op op_add (pv 4) pe_int) (fun _ _ => rfl)) (pg_tup rfl (pgs_cons (pg_name (i := 6) scLast.nd rfl (by first | exact Or.inl rfl | exact Or.inr rfl)) (pgs_cons (pg_name (i := 7) scLast.nd rfl (by first | exact Or.inl rfl | exact Or.inr rfl)) pgs_nil))))
      (pss_cut2 (ps_if (pt_cmpR op_eq (pv 5) pe_str (nomark _)) (pss_one (ps_set (i := 5) scLast.nd rfl (by first | exact Or.inl rfl | exact Or.inr rfl) (pe_ifExp (pt_chain op_le op_le (pv 6) (pe_op op_sub (pv 2) pe_int) (pv 7)) pe_str pe_str)))
      pss_nil)
      (pss_cons (ps_set (i := 2) scLast.nd rfl (by first | exact Or.inl rfl | exact Or.inr rfl) (pe_ifExp (pt_cmpR op_eq (pv 5) pe_str (nomark _)) (pe_op op_add (pv 2) pe_int) (pe_op op_sub (pv 2) pe_int)))
      (pss_one (ps_expr (pe_bm PySem.F.plainAttrs_list PySem.F.slot_list_append PySem.F.type_list_append mt_append (pv 3) (pa_cons (pv 5) pa_nil))))))))
      (pss_one (ps_ret (pe_join pe_str (pv 3)))))))))), ?_⟩
    rcases h with ⟨l, rfl, hl, q1, q2, q3⟩ | ⟨hn, q⟩
    · refine ⟨_, rfl, S l, rfl, .inl ⟨l, rfl, hl, q1, q2, fun hrw hc H1 s1 => ?_⟩⟩
      refine ⟨_, rfl, l, rfl, hl, hrw, fun H2 tp L s2 ntp htp hP hL => ?_⟩
      walk_at "nxt"
      refine sq_set (.int 0) (fun Q q => q) ?_
      refine ⟨Nat.zero_le _, fun o no => ?_⟩
      have s12 := s1.trans s2
      have ho0 : H o = none := s12.free no
      have nto : tp ≠ o := ne_of_none htp no
      refine ⟨_, rfl, _, rfl, for_enS (l := l) (fun p σ H' => ∃ x4 x5 x6 x7 d g, σ = [some (S l), some (.ref tp), some (.int ((d : Nat) : Int)), some (.ref o), x4, x5, x6, x7] ∧ Same H H' ∧ H' tp = some (.lst (L.map fun e : Addr × (Int × Int) => V.ref e.1)) ∧ PairsAt H' L ∧ H' o = some (.lst (g.map ch)) ∧ g.length = p.length ∧ p.length ≤ l.length ∧
          greedy false l 0 = g ++ greedy false (l.drop p.length) d ∧ can (l.drop p.length) d = true) ⟨_, _, _, _, 0, [], rfl, s12.trans (Same.new no), ?_, ?_, upd_same, rfl, Nat.zero_le _, rfl, hc⟩ ?_ ?_⟩
      · rw [upd_ne nto]; exact htp
      · exact fun e he => Same.new no _ _ (hP e he)
      · rintro p c r σ H3 H4 e ⟨x4, x5, x6, x7, d, g, rfl, sm, h1, hP3, h2, hg, hp, hgr, hcan⟩ s34
        have h1' := s34 _ _ h1
        have h2' := s34 _ _ h2
        have hP4 : PairsAt H4 L := fun e he => s34 _ _ (hP3 e he)
        have hp1 : p.length + 1 ≤ l.length := by rw [e]; simp
        have hdr : l.drop p.length = c :: r := by rw [e, List.drop_left]
        have hdr1 : l.drop (p.length + 1) = r := by
          rw [← List.drop_drop, hdr]; rfl
        have hrr : IsRow r := by rw [← hdr1]; exact hrw.drop _
        have hcc : c = 40 ∨ c = 41 ∨ c = 63 := hrw c (by rw [e]; simp)
        rw [hdr] at hgr hcan
        obtain ⟨a, ha⟩ := get_of hL (bps_get l (p.length + 1) hp1)
        rw [hdr1] at ha
        have hta := hP4 _ (List.mem_of_getElem? ha)
        refine ⟨_, rfl, _, rfl, _, _, rfl, rfl, tp, _, _, .ref a, rfl, rfl, SqL.of h1', atI_nat (j := p.length + 1) (by rw [List.getElem?_map, ha]; rfl), ?_⟩
        refine g2 hta ?_
        have hx := gsign_ok (op := false) hcc hcan
        refine ⟨fun σ' H' => σ' = [some (S l), some (.ref tp), some (.int (d : Int)), some (.ref o), some (.int p.length), some (ch (gsign false c r d)), some (.int (bpair r).1), some (.int (bpair r).2)] ∧ H' = H4, ?_, ?_⟩
        · refine ⟨_, rfl, rfl, _, rfl, ?_⟩
          by_cases h63 : c = 63
          · subst h63
            have lt := last_test hrr hcan
            refine iteD ((eq_qu 63).mpr rfl) ⟨_, rfl, _, rfl, _, _, rfl, rfl, _, _, rfl, rfl, _, rfl, ?_⟩
            have gs : gsign false 63 r d = if (decide (0 < d) && can r (d - 1)) = true then 41 else 40 := by unfold gsign; rw [if_pos rfl, if_neg (by decide)]
            by_cases ha1 : (bpair r).1 ≤ (d : Int) - 1
            · refine iteD ha1 ⟨_, rfl, _, _, rfl, rfl, _, rfl, ?_⟩
              by_cases ha2 : (d : Int) - 1 ≤ (bpair r).2
              · refine iteD ha2 ⟨?_, rfl⟩
                rw [gs, if_pos (lt.mp ⟨ha1, ha2⟩), lit_cl]
                rfl
              · refine iteDn ha2 ⟨?_, rfl⟩
                rw [gs, if_neg (fun h => ha2 (lt.mpr h).2), lit_op]
                rfl
            · refine iteDn ha1 ⟨_, rfl, iteF ⟨?_, rfl⟩⟩
              rw [gs, if_neg (fun h => ha1 (lt.mpr h).1), lit_op]
              rfl
          · refine iteDn (fun e => h63 ((eq_qu c).mp e)) ⟨?_, rfl⟩
            rw [show gsign false c r d = c by unfold gsign; rw [if_neg h63]]
            rfl
        · rintro σ' H' ⟨rfl, rfl⟩
          rw [greedy_cons] at hgr
          generalize gsign false c r d = x at *
          have hxx : x = 40 ∨ x = 41 := hx.elim (fun h => .inl h.1) fun h => .inr h.1
          refine sq_set (.int ((if x = 40 then d + 1 else d - 1 : Nat) : Int)) (fun Q q => ?_) ?_
          · refine ⟨_, rfl, rfl, _, rfl, ?_⟩
            by_cases h40 : x = 40
            · rw [if_pos h40] at q
              exact iteD ((eq_op x).mpr h40) ⟨_, rfl, _, _, rfl, rfl, q⟩
            · rw [if_neg h40] at q
              have hd0 : 0 < d := hx.elim (fun h => absurd h.1 h40) (fun h => h.2.2.1)
              have q : Q (.int ((d - 1 : Nat) : Int)) H' := q
              rw [show ((d - 1 : Nat) : Int) = (d : Int) - 1 by omega] at q
              exact iteDn (fun e => h40 ((eq_op x).mp e)) ⟨_, rfl, _, _, rfl, rfl, q⟩
          · refine ⟨_, rfl, .inl ⟨rfl, _, SqL.of h2'⟩, _, rfl, _, _, _, rfl, rfl, h2', sz5l (by walk_at "len"), _, _, _, _, (if x = 40 then d + 1 else d - 1), g ++ [x], rfl, (sm.trans s34).mut ho0, ?_, ?_, ?_, by walk_at "len", by rw [List.length_append]; exact hp1, ?_, ?_⟩
            · rw [upd_ne nto]; exact h1'
            · intro e he
              have h5 := hP4 e he
              rw [upd_ne (fun h => by rw [h, h2'] at h5; cases h5)]
              exact h5
            · rw [upd_same, List.map_append]; rfl
            · rw [List.length_append, List.length_singleton, hdr1, List.append_assoc]
              exact hgr
            · rw [List.length_append, List.length_singleton, hdr1]
              rcases hx with h | h
              · rw [if_pos h.1]; exact h.2.2
              · rw [if_neg (by rw [h.1]; decide)]; exact h.2.2.2
      · rintro σ H3 ⟨x4, x5, x6, x7, d, g, rfl, sm, h1, hP3, h2, hg, hp, hgr, hcan⟩
        rw [List.drop_length] at hgr
        have hgr : greedy false l 0 = g := by rw [hgr]; exact List.append_nil _
        have := q3 hrw hc _ sm
        rw [hgr] at this
        exact ⟨⟨_, rfl⟩, _, rfl, join_rd (SqL.of h2) (by omega) this⟩
    · exact ⟨_, rfl, v, rfl, .inr ⟨hn, q⟩⟩
end
end HT

set_option Elab.async false
set_option linter.all false
set_option maxRecDepth 100000
set_option maxHeartbeats 4000000
namespace HT
open PySem PySem.Spec PyProof.Rows L2 BR
local macro_rules | `(tactic| walk_at "sq") => `(tactic| first | exact SqL.of (by assumption) | exact SqL.of upd_same | exact SqT.of (by assumption) | exact SqT.of upd_same | assumption | exact Same.seq (by assumption) (by assumption) | exact Same.seq (Same.trans (by assumption) (by assumption)) (by assumption))
local macro_rules | `(tactic| walk_at "len") => `(tactic| (simp only [List.length_append, List.length_map, List.length_cons, List.length_nil, List.length_set, List.length_replicate, List.length_take, List.length_drop, List.length_reverse, List.length_range, dpi_len, dps_len, len_S]; omega))
local macro_rules | `(tactic| walk_at "g1") => `(tactic| first
  | refine ⟨_, rfl, ?_⟩
  | refine ⟨rfl, ?_⟩
  | refine ⟨_, _, rfl, rfl, @id.{0} _ (by first | decide | omega | exact ⟨by decide, by decide⟩ | exact .inr ⟨by decide, by decide⟩ | (show (0 : Int) < _; decide)), ?_⟩
  | refine ⟨_, _, rfl, rfl, ?_⟩
  | refine ⟨_, _, _, _, rfl, rfl, (by walk_at "sq"), (by first | exact atI_last _ _ | (with_reducible exact atI_nat (by assumption))), ?_⟩
  | refine ⟨.inl ⟨rfl, _, (by walk_at "sq")⟩, ?_⟩
  | refine ⟨_, _, rfl, (by first | exact .inl (by walk_at "sq") | exact .inr (by walk_at "sq")), ?_⟩
  | refine ⟨_, rfl, (by first | exact sz5 (by walk_at "len") | exact szS (by omega)), ?_⟩
  | refine ⟨_, _, _, rfl, rfl, (by assumption), sz5l (by walk_at "len"), ?_⟩)
local macro_rules | `(tactic| walk_at "go") => `(tactic| repeat walk_at "g1")
local macro_rules | `(tactic| walk_at "nxt") => `(tactic| (show tSeq Ends.nx _ _ _ _; refine nx_in ?_))

section
variable {P : Program} {w : World} {K : PySem.W.Frag} {mg : Str → Option Value} {base : Heap}
theorem max3_int (a b c : Int) : nuMax3 (.int a) (.int b) (.int c) = some (.int (max (max a b) c)) := by
  show (((nuLt (.int a) (.int b)).map fun k => if k = true then V.int b else V.int a).bind fun m => (nuLt m (.int c)).map fun k => if k = true then V.int c else m) = _
  show ((some (decide (a < b))).map fun k => if k = true then V.int b else V.int a).bind (fun m => (nuLt m (.int c)).map fun k => if k = true then V.int c else m) = _
  show ((nuLt (if decide (a < b) = true then V.int b else V.int a) (.int c)).map fun k => if k = true then V.int c else (if decide (a < b) = true then V.int b else V.int a)) = _
  rw [show (if decide (a < b) = true then V.int b else V.int a) = V.int (max a b) from ?_]
  · show some (if decide (max a b < c) = true then V.int c else V.int (max a b)) = _
    by_cases h : max a b < c
    · rw [if_pos (decide_eq_true h)]; congr 2; omega
    · rw [if_neg (fun e => h (of_decide_eq_true e))]; congr 2; omega
  · by_cases h : a < b
    · rw [if_pos (decide_eq_true h)]; congr 1; omega
    · rw [if_neg (fun e => h (of_decide_eq_true e))]; congr 1; omega
def waysOf (o k : Bool) : List Nat := (if o = true then [40] else []) ++ (if k = true then [41] else [])
theorem w_oc (o k : Bool) : (S (waysOf o k) = V.str (Str.ofString "()")) ↔ (o = true ∧ k = true) := by
  rw [lit_oc]
  show (S (waysOf o k) = S [40, 41]) ↔ _
  rw [S_inj]
  cases o <;> cases k <;> simp [waysOf]
theorem w_o (o k : Bool) : (S (waysOf o k) = V.str (Str.ofString "(")) ↔ (o = true ∧ k = false) := by
  rw [lit_op]
  show (S (waysOf o k) = S [40]) ↔ _
  rw [S_inj]
  cases o <;> cases k <;> simp [waysOf]
theorem w_c (o k : Bool) : (S (waysOf o k) = V.str (Str.ofString ")")) ↔ (o = false ∧ k = true) := by
  rw [lit_cl]
  show (S (waysOf o k) = S [41]) ↔ _
  rw [S_inj]
  cases o <;> cases k <;> simp [waysOf]
theorem setW_cons (c : Nat) (r : List Nat) (p : Int × Int) : setW (c :: r) p = ssg (wop c p (bpair r)) (wcl c p (bpair r)) :: setW r (snx (wop c p (bpair r)) (wcl c p (bpair r)) p (bpair r)) := rfl
def spSettled (T : Txt K mg) : Sp := fun vs H Q E => ∃ v, vs = [v] ∧ Asks T v H E fun l => ∀ H', Same H H' → Q (S (settledOf l)) H'
theorem okSettled (T : Txt K mg) : FnOk P w K mg base (L2N.CX P w) 5 T.f_settled.a T.f_settled.fd ["row"] (spSettled T) := by
  refine T.f_settled.F.okXN scSettled (fun vs H Q E h => ?_) (fun cdv A outer s H vs Q E hr h => ?_)
  · obtain ⟨v, rfl, _⟩ := h
    rfl
  · obtain ⟨v, rfl, h⟩ := h
    refine ⟨_, (pss_cons (ps_expr (pe_call (okAskedFilling T) (hr.mono (by decide)) (by rfl) T.f_asked_filling.g T.f_asked_filling.F.kp T.f_asked_filling.b .nil (L2N.passes_call (L2N.takes_of rfl rfl rfl rfl) (fun _ _ _ _ h => h)) (pa_cons (pv 0) pa_nil)))
      (PSs.nox (pss_cons (ps_set (i := 1) scSettled.nd rfl (by first | exact Or.inl rfl | exact Or.inr rfl) (pe_call (okBehind T) (hr.mono (by decide)) (by rfl) T.f_behind.g T.f_behind.F.kp T.f_behind.b .nil pass0 (pa_cons (pv 0) pa_nil)))
      (pss_cons (ps_set (i := 2) scSettled.nd rfl (by first | exact Or.inl rfl | exact Or.inr rfl) pe_int)
      (pss_cons (ps_set (i := 3) scSettled.nd rfl (by first | exact Or.inl rfl | exact Or.inr rfl) pe_int)
      (pss_cons (ps_set (i := 4) scSettled.nd rfl (by first | exact Or.inl rfl | exact Or.inr rfl) (pe_lst pa_nil))
      (pss_cons (ps_for PassesOwn.never rfl (pi_enumS (by rfl) T.n_enumerate (pa_cons (pv 0) pa_nil)) (pg_tup rfl (pgs_cons (pg_name (i := 5) scSettled.nd rfl (by first | exact Or.inl rfl | exact Or.inr rfl)) (pgs_cons (pg_name (i := 6) scSettled.nd rfl (by first | exact Or.inl rfl | exact Or.inr rfl)) pgs_nil)))
      (pss_cons (ps_asg (pe_ix ix_list (pv 1) (pe_op op_add (pv 5) pe_int) (fun _ _ => rfl)) (pg_tup rfl (pgs_cons (pg_name (i := 7) scSettled.nd rfl (by first | exact Or.inl rfl | exact Or.inr rfl)) (pgs_cons (pg_name (i := 8) scSettled.nd rfl (by first | exact Or.inl rfl | exact Or.inr rfl)) pgs_nil))))
      (pss_cons (ps_set (i := 9) scSettled.nd rfl (by first | exact Or.inl rfl | exact Or.inr rfl) pe_str)
      (pss_cut2 (ps_if (PW.pt (pw_and (pt_cmpR op_ne (pv 6) pe_str (nomark _)) (pw_and1 (pt_cmpR op_le (pe_callB (call_max2 rfl) (by rfl) T.n_max (by decide +kernel) (pa_cons (pe_op op_add (pv 2) pe_int) (pa_cons (pv 7) pa_nil))) (pe_callB (call_min2 rfl) (by rfl) T.n_min (by decide +kernel) (pa_cons (pe_op op_add (pv 3) pe_int) (pa_cons (pv 8) pa_nil))) (nomark _))))) (pss_one (ps_set (i := 9) scSettled.nd rfl (by first | exact Or.inl rfl | exact Or.inr rfl) pe_str))
      pss_nil)
      (pss_cut2 (ps_if (PW.pt (pw_and (pt_cmpR op_ne (pv 6) pe_str (nomark _)) (pw_and1 (pt_cmpR op_le (pe_callB (call_max3Nu rfl) (by rfl) T.n_max (by decide +kernel) (pa_cons (pe_op op_sub (pv 2) pe_int) (pa_cons (pv 7) (pa_cons pe_int pa_nil)))) (pe_callB (call_min2 rfl) (by rfl) T.n_min (by decide +kernel) (pa_cons (pe_op op_sub (pv 3) pe_int) (pa_cons (pv 8) pa_nil))) (nomark _))))) (pss_one (ps_set (i := 9) scSettled.nd rfl (by first | exact Or.inl rfl | exact Or.inr rfl) (pe_op op_add_str (pv 9) pe_str)))
      pss_nil)
      (pss_cons (ps_expr (pe_bm PySem.F.plainAttrs_list PySem.F.slot_list_append PySem.F.type_list_append mt_append (pv 4) (pa_cons (pe_ifExp (pt_cmpR op_eq (pv 9) pe_str (nomark _)) pe_str (pv 9)) pa_nil)))
      (pss_cut2 (ps_if (pt_cmpR op_eq (pv 9) pe_str (nomark _)) (pss_cons (ps_set (i := 2) scSettled.nd rfl (by first | exact Or.inl rfl | exact Or.inr rfl) (pe_op op_add (pv 2) pe_int))
      (pss_one (ps_set (i := 3) scSettled.nd rfl (by first | exact Or.inl rfl | exact Or.inr rfl) (pe_op op_add (pv 3) pe_int))))
      (pss_one (ps_if (pt_cmpR op_eq (pv 9) pe_str (nomark _)) (pss_cons (ps_set (i := 2) scSettled.nd rfl (by first | exact Or.inl rfl | exact Or.inr rfl) (pe_ifExp (pt_cmpR op_gt (pv 2) pe_int (nomark _)) (pe_op op_sub (pv 2) pe_int) (pe_op op_add (pv 2) pe_int)))
      (pss_one (ps_set (i := 3) scSettled.nd rfl (by first | exact Or.inl rfl | exact Or.inr rfl) (pe_op op_sub (pv 3) pe_int))))
      (pss_cons (ps_set (i := 2) scSettled.nd rfl (by first | exact Or.inl rfl | exact Or.inr rfl) (pe_ifExp (pt_cmpR op_gt (pv 2) pe_int (nomark _)) (pe_op op_sub (pv 2) pe_int) (pe_op op_add (pv 2) pe_int)))
      (pss_one (ps_set (i := 3) scSettled.nd rfl (by first | exact Or.inl rfl | exact Or.inr rfl) (pe_op op_add (pv 3) pe_int)))))))
      (pss_cons (ps_set (i := 2) scSettled.nd rfl (by first | exact Or.inl rfl | exact Or.inr rfl) (pe_callB (call_max2 rfl) (by rfl) T.n_max (by decide +kernel) (pa_cons (pv 2) (pa_cons (pv 7) pa_nil))))
      (pss_one (ps_set (i := 3) scSettled.nd rfl (by first | exact Or.inl rfl | exact Or.inr rfl) (pe_callB (call_min2 rfl) (by rfl) T.n_min (by decide +kernel) (pa_cons (pv 3) (pa_cons (pv 8) pa_nil)))))))))))))
      (pss_one (ps_ret (pe_join pe_str (pv 4))))))))))), ?_⟩
    rcases h with ⟨l, rfl, hl, q1, q2, q3⟩ | ⟨hn, q⟩
    · refine ⟨_, rfl, S l, rfl, .inl ⟨l, rfl, hl, q1, q2, fun hrw hc H1 s1 => ?_⟩⟩
      refine ⟨_, rfl, l, rfl, hl, hrw, fun H2 tp L s2 ntp htp hP hL => ?_⟩
      walk_at "nxt"
      refine sq_set (.int 0) (fun Q q => q) ?_
      refine sq_set (.int 0) (fun Q q => q) ?_
      refine ⟨Nat.zero_le _, fun o no => ?_⟩
      have s12 := s1.trans s2
      have ho0 : H o = none := s12.free no
      have nto : tp ≠ o := ne_of_none htp no
      refine ⟨_, rfl, _, rfl, for_enS (l := l) (fun p σ H' => ∃ x5 x6 x7 x8 x9 lo hi g, σ = [some (S l), some (.ref tp), some (.int lo), some (.int hi), some (.ref o), x5, x6, x7, x8, x9] ∧ Same H H' ∧ H' tp = some (.lst (L.map fun e : Addr × (Int × Int) => V.ref e.1)) ∧ PairsAt H' L ∧ H' o = some (.lst (g.map ch)) ∧ g.length = p.length ∧ p.length ≤ l.length ∧
          settledOf l = g ++ setW (l.drop p.length) (lo, hi) ∧ POk (lo, hi) ∧ ∀ d : Nat, inB (lo, hi) d → can (l.drop p.length) d = true) ⟨_, _, _, _, _, 0, 0, [], rfl, s12.trans (Same.new no), ?_, ?_, upd_same, rfl, Nat.zero_le _, rfl, ⟨by decide, by decide, by decide⟩, ?_⟩ ?_ ?_⟩
      · rw [upd_ne nto]; exact htp
      · exact fun e he => Same.new no _ _ (hP e he)
      · rintro d ⟨a, b, _⟩
        simp only at a b
        rw [show d = 0 by omega]
        exact hc
      · rintro p c r σ H3 H4 e ⟨x5, x6, x7, x8, x9, lo, hi, g, rfl, sm, h1, hP3, h2, hg, hp, hgr, pok, hall⟩ s34
        have h1' := s34 _ _ h1
        have h2' := s34 _ _ h2
        have hP4 : PairsAt H4 L := fun e he => s34 _ _ (hP3 e he)
        have hp1 : p.length + 1 ≤ l.length := by rw [e]; simp
        have hdr : l.drop p.length = c :: r := by rw [e, List.drop_left]
        have hdr1 : l.drop (p.length + 1) = r := by
          rw [← List.drop_drop, hdr]; rfl
        have hrr : IsRow r := by rw [← hdr1]; exact hrw.drop _
        have hcc : c = 40 ∨ c = 41 ∨ c = 63 := hrw c (by rw [e]; simp)
        rw [hdr] at hgr hall
        have st := step_ok hcc hrr pok hall
        obtain ⟨a, ha⟩ := get_of hL (bps_get l (p.length + 1) hp1)
        rw [hdr1] at ha
        have hta := hP4 _ (List.mem_of_getElem? ha)
        refine ⟨_, rfl, _, rfl, _, _, rfl, rfl, tp, _, _, .ref a, rfl, rfl, SqL.of h1', atI_nat (j := p.length + 1) (by rw [List.getElem?_map, ha]; rfl), ?_⟩
        refine g2 hta ?_
        rw [setW_cons] at hgr
        obtain ⟨some_, okp, mem, _, _⟩ := st
        have eop : wop c (lo, hi) (bpair r) = true ↔ c ≠ 41 ∧ max (lo + 1) (bpair r).1 ≤ min (hi + 1) (bpair r).2 := by simp only [wop, Bool.and_eq_true, decide_eq_true_eq]
        have ecl : wcl c (lo, hi) (bpair r) = true ↔ c ≠ 40 ∧ max (max (lo - 1) (bpair r).1) 0 ≤ min (hi - 1) (bpair r).2 := by simp only [wcl, Bool.and_eq_true, decide_eq_true_eq]
        have esn : snx (wop c (lo, hi) (bpair r)) (wcl c (lo, hi) (bpair r)) (lo, hi) (bpair r) = snx (wop c (lo, hi) (bpair r)) (wcl c (lo, hi) (bpair r)) (lo, hi) ((bpair r).1, (bpair r).2) := rfl
        rw [esn] at hgr okp mem
        generalize wop c (lo, hi) (bpair r) = wo at *
        generalize wcl c (lo, hi) (bpair r) = wk at *
        generalize hle : (bpair r).1 = le at *
        generalize hmo : (bpair r).2 = mo at *
        have c41 : (¬ ch c = V.str (Str.ofString ")")) ↔ c ≠ 41 := not_congr (eq_cl c)
        have c40 : (¬ ch c = V.str (Str.ofString "(")) ↔ c ≠ 40 := not_congr (eq_op c)
        walk_at "nxt"
        refine sq_set (S []) (fun Q q => ?_) ?_
        · have q : Q (.str (St_ [])) H4 := q
          rw [← lit_e] at q
          exact q
        refine ⟨fun σ' H' => σ' = [some (S l), some (.ref tp), some (.int lo), some (.int hi), some (.ref o), some (.int p.length), some (ch c), some (.int le), some (.int mo), some (S (if wo = true then [40] else []))] ∧ H' = H4, ?_, ?_⟩
        · refine ⟨_, rfl, rfl, _, rfl, ?_⟩
          by_cases h41 : c = 41
          · have hw : wo = false := Bool.eq_false_iff.mpr fun h => (eop.mp h).1 h41
            subst hw
            exact iteNS ((eq_cl c).mpr h41) ⟨rfl, rfl⟩
          · refine iteNT (c41.mpr h41) ⟨_, rfl, _, _, rfl, rfl, _, rfl, _, _, rfl, _, rfl, _, _, rfl, rfl, _, rfl, _, _, rfl, _, _, rfl, rfl, _, rfl, ?_⟩
            rw [max2, min2]
            by_cases hm : max (lo + 1) le ≤ min (hi + 1) mo
            · have hw : wo = true := eop.mpr ⟨h41, hm⟩
              subst hw
              exact iteD hm ⟨by rw [lit_op]; rfl, rfl⟩
            · have hw : wo = false := Bool.eq_false_iff.mpr fun h => hm (eop.mp h).2
              subst hw
              exact iteDn hm ⟨rfl, rfl⟩
        rintro σ' H' ⟨rfl, rfl⟩
        refine ⟨fun σ' H'' => σ' = [some (S l), some (.ref tp), some (.int lo), some (.int hi), some (.ref o), some (.int p.length), some (ch c), some (.int le), some (.int mo), some (S (waysOf wo wk))] ∧ H'' = H', ?_, ?_⟩
        · refine ⟨_, rfl, rfl, _, rfl, ?_⟩
          by_cases h40 : c = 40
          · have hw : wk = false := Bool.eq_false_iff.mpr fun h => (ecl.mp h).1 h40
            subst hw
            exact iteNS ((eq_op c).mpr h40) ⟨by unfold waysOf; rw [if_neg (show ¬ (false = true) by decide), List.append_nil], rfl⟩
          · refine iteNT (c40.mpr h40) ⟨_, rfl, _, _, rfl, rfl, _, rfl, .int (lo - 1), .int le, .int 0, _, rfl, max3_int _ _ _, _, rfl, _, _, rfl, rfl, _, rfl, _, _, rfl, _, _, rfl, rfl, _, rfl, ?_⟩
            rw [min2]
            by_cases hm : max (max (lo - 1) le) 0 ≤ min (hi - 1) mo
            · have hw : wk = true := ecl.mpr ⟨h40, hm⟩
              subst hw
              refine iteD hm ⟨_, rfl, _, _, rfl, rfl, ?_, ?_, rfl⟩
              · rw [lit_cl, len_S, len_S]; exact sz5 (by cases wo <;> simp)
              · rw [lit_cl, add_S]; rfl
            · have hw : wk = false := Bool.eq_false_iff.mpr fun h => hm (ecl.mp h).2
              subst hw
              exact iteDn hm ⟨by unfold waysOf; rw [if_neg (show ¬ (false = true) by decide), List.append_nil], rfl⟩
        rintro σ' H'' ⟨rfl, rfl⟩
        have hsz : (g.map ch).length < sizeLine := sz5l (by walk_at "len")
        have smo := sm.trans s34
        -- what comes behind the sign
        have rest : ∀ H5 : Hp, Same H H5 → H5 tp = some (.lst (L.map fun e : Addr × (Int × Int) => V.ref e.1)) → PairsAt H5 L → H5 o = some (.lst ((g ++ [ssg wo wk]).map ch)) → ∃ y5 y6 y7 y8 y9 lo' hi' g', ([some (S l), some (.ref tp), some (.int (snx wo wk (lo, hi) (le, mo)).1), some (.int (snx wo wk (lo, hi) (le, mo)).2), some (.ref o), some (.int p.length), some (ch c), some (.int le), some (.int mo), some (S (waysOf wo wk))] : L2.St) = [some (S l), some (.ref tp), some (.int lo'), some (.int hi'), some (.ref o), y5, y6, y7, y8, y9] ∧ Same H H5 ∧ H5 tp = some (.lst (L.map fun e : Addr × (Int × Int) => V.ref e.1)) ∧ PairsAt H5 L ∧ H5 o = some (.lst (g'.map ch)) ∧ g'.length = (p ++ [c]).length ∧ (p ++ [c]).length ≤ l.length ∧
            settledOf l = g' ++ setW (l.drop (p ++ [c]).length) (lo', hi') ∧ POk (lo', hi') ∧ ∀ d : Nat, inB (lo', hi') d → can (l.drop (p ++ [c]).length) d = true := by
          intro H5 b1 b2 b3 b4
          refine ⟨_, _, _, _, _, _, _, g ++ [ssg wo wk], rfl, b1, b2, b3, b4, by walk_at "len", by walk_at "len", ?_, okp, fun d hd => ?_⟩
          · rw [List.length_append, List.length_singleton, hdr1, List.append_assoc]; exact hgr
          · rw [List.length_append, List.length_singleton, hdr1]; exact ((mem d).mp hd).1
        refine ⟨_, rfl, .inl ⟨rfl, _, SqL.of h2'⟩, _, rfl, rfl, _, rfl, ?_⟩
        have keep_ : ∀ v, v = ch (ssg wo wk) → Same H (upd H'' o (.lst (g.map ch ++ [v]))) ∧ (upd H'' o (.lst (g.map ch ++ [v]))) tp = some (.lst (L.map fun e : Addr × (Int × Int) => V.ref e.1)) ∧ PairsAt (upd H'' o (.lst (g.map ch ++ [v]))) L ∧ (upd H'' o (.lst (g.map ch ++ [v]))) o = some (.lst ((g ++ [ssg wo wk]).map ch)) := by
          intro v hv
          refine ⟨smo.mut ho0, ?_, ?_, ?_⟩
          · rw [upd_ne nto]; exact h1'
          · intro e he
            have h5 := hP4 e he
            rw [upd_ne (fun h => by rw [h, h2'] at h5; cases h5)]
            exact h5
          · rw [upd_same, hv, List.map_append]; rfl
        cases wo with
        | true =>
          cases wk with
          | true =>
            have lq : V.str (Str.ofString "?") = ch 63 := congrArg V.str lit_q
            obtain ⟨k1, k2, k3, k4⟩ := keep_ (ch 63) rfl
            have es : snx true true (lo, hi) (le, mo) = (max (dn lo) le, min (hi + 1) mo) := by unfold snx; rw [if_neg (by decide), if_neg (by decide)]
            rw [es] at rest
            refine iteD ((w_oc true true).mpr ⟨rfl, rfl⟩) ⟨_, _, _, rfl, rfl, h2', hsz, fun σ' H5 => σ' = [some (S l), some (.ref tp), some (.int (dn lo)), some (.int (hi + 1)), some (.ref o), some (.int p.length), some (ch c), some (.int le), some (.int mo), some (S (waysOf true true))] ∧ H5 = upd H'' o (.lst (g.map ch ++ [ch 63])), ?_, ?_⟩
            · refine ⟨_, rfl, rfl, _, rfl, iteDn (mt (w_o true true).mp (by decide)) ⟨_, rfl, rfl, _, rfl, iteDn (mt (w_c true true).mp (by decide)) ?_⟩⟩
              refine sq_set (.int (dn lo)) (fun Q q => ?_) ⟨_, rfl, _, _, rfl, rfl, rfl, ?_⟩
              · refine ⟨_, rfl, _, _, rfl, rfl, _, rfl, ?_⟩
                by_cases h0 : 0 < lo
                · rw [show dn lo = lo - 1 by unfold dn; rw [if_pos h0]] at q
                  exact iteD h0 ⟨_, rfl, _, _, rfl, rfl, q⟩
                · rw [show dn lo = lo + 1 by unfold dn; rw [if_neg h0]] at q
                  exact iteDn h0 ⟨_, rfl, _, _, rfl, rfl, q⟩
              · rfl
            · rintro σ' H5 ⟨rfl, rfl⟩
              refine sq_set (.int (max (dn lo) le)) (fun Q q => ⟨_, rfl, _, rfl, _, _, rfl, by rw [max2]; exact q⟩) ?_
              refine s_set (.int (min (hi + 1) mo)) (fun Q q => ⟨_, rfl, _, rfl, _, _, rfl, by rw [min2]; exact q⟩) ?_
              exact rest _ k1 k2 k3 k4
          | false =>
            obtain ⟨k1, k2, k3, k4⟩ := keep_ (ch 40) rfl
            have es : snx true false (lo, hi) (le, mo) = (max (lo + 1) le, min (hi + 1) mo) := by unfold snx; rw [if_pos (by decide)]
            rw [es] at rest
            refine iteDn (mt (w_oc true false).mp (by decide)) ⟨_, rfl, _, _, _, rfl, rfl, h2', hsz, fun σ' H5 => σ' = [some (S l), some (.ref tp), some (.int (lo + 1)), some (.int (hi + 1)), some (.ref o), some (.int p.length), some (ch c), some (.int le), some (.int mo), some (S (waysOf true false))] ∧ H5 = upd H'' o (.lst (g.map ch ++ [ch 40])), ?_, ?_⟩
            · refine ⟨_, rfl, rfl, _, rfl, iteD ((w_o true false).mpr ⟨rfl, rfl⟩) ⟨_, rfl, _, _, rfl, rfl, _, rfl, _, _, rfl, rfl, rfl, ?_⟩⟩
              rfl
            · rintro σ' H5 ⟨rfl, rfl⟩
              refine sq_set (.int (max (lo + 1) le)) (fun Q q => ⟨_, rfl, _, rfl, _, _, rfl, by rw [max2]; exact q⟩) ?_
              refine s_set (.int (min (hi + 1) mo)) (fun Q q => ⟨_, rfl, _, rfl, _, _, rfl, by rw [min2]; exact q⟩) ?_
              exact rest _ k1 k2 k3 k4
        | false =>
          cases wk with
          | true =>
            obtain ⟨k1, k2, k3, k4⟩ := keep_ (ch 41) rfl
            have es : snx false true (lo, hi) (le, mo) = (max (dn lo) le, min (hi - 1) mo) := by unfold snx; rw [if_neg (by decide), if_pos (by decide)]
            rw [es] at rest
            refine iteDn (mt (w_oc false true).mp (by decide)) ⟨_, rfl, _, _, _, rfl, rfl, h2', hsz, fun σ' H5 => σ' = [some (S l), some (.ref tp), some (.int (dn lo)), some (.int (hi - 1)), some (.ref o), some (.int p.length), some (ch c), some (.int le), some (.int mo), some (S (waysOf false true))] ∧ H5 = upd H'' o (.lst (g.map ch ++ [ch 41])), ?_, ?_⟩
            · refine ⟨_, rfl, rfl, _, rfl, iteDn (mt (w_o false true).mp (by decide)) ⟨_, rfl, rfl, _, rfl, iteD ((w_c false true).mpr ⟨rfl, rfl⟩) ?_⟩⟩
              refine sq_set (.int (dn lo)) (fun Q q => ?_) ⟨_, rfl, _, _, rfl, rfl, rfl, ?_⟩
              · refine ⟨_, rfl, _, _, rfl, rfl, _, rfl, ?_⟩
                by_cases h0 : 0 < lo
                · rw [show dn lo = lo - 1 by unfold dn; rw [if_pos h0]] at q
                  exact iteD h0 ⟨_, rfl, _, _, rfl, rfl, q⟩
                · rw [show dn lo = lo + 1 by unfold dn; rw [if_neg h0]] at q
                  exact iteDn h0 ⟨_, rfl, _, _, rfl, rfl, q⟩
              · rfl
            · rintro σ' H5 ⟨rfl, rfl⟩
              refine sq_set (.int (max (dn lo) le)) (fun Q q => ⟨_, rfl, _, rfl, _, _, rfl, by rw [max2]; exact q⟩) ?_
              refine s_set (.int (min (hi - 1) mo)) (fun Q q => ⟨_, rfl, _, rfl, _, _, rfl, by rw [min2]; exact q⟩) ?_
              exact rest _ k1 k2 k3 k4
          | false => exact absurd some_ (by simp)
      · rintro σ H3 ⟨x5, x6, x7, x8, x9, lo, hi, g, rfl, sm, h1, hP3, h2, hg, hp, hgr, pok, hall⟩
        rw [List.drop_length] at hgr
        have hgr : settledOf l = g := by rw [hgr]; exact List.append_nil _
        have := q3 hrw hc _ sm
        rw [hgr] at this
        exact ⟨⟨_, rfl⟩, _, rfl, join_rd (SqL.of h2) (by omega) this⟩
    · exact ⟨_, rfl, v, rfl, .inr ⟨hn, q⟩⟩
end
end HT

set_option Elab.async false
set_option linter.all false
set_option maxRecDepth 100000
set_option maxHeartbeats 4000000
/-! Dicts that tell sets of depths. -/
namespace L2
open PySem PySem.Spec PyProof.Rows
def setD (ks : List Nat) : List (Key × V) := ks.map fun d : Nat => ((Sum.inl (d : Int) : Key), V.bl true)
def addK (ks : List Nat) (k : Nat) : List Nat := if k ∈ ks then ks else ks ++ [k]
theorem mem_addK {ks : List Nat} {k d : Nat} : d ∈ addK ks k ↔ d ∈ ks ∨ d = k := by
  unfold addK
  by_cases h : k ∈ ks
  · rw [if_pos h]
    exact ⟨.inl, fun h' => h'.elim id fun e => e ▸ h⟩
  · rw [if_neg h, List.mem_append, List.mem_singleton]
theorem nodup_addK {ks : List Nat} {k : Nat} (h : ks.Nodup) : (addK ks k).Nodup := by
  unfold addK
  by_cases hk : k ∈ ks
  · rw [if_pos hk]; exact h
  · rw [if_neg hk, List.nodup_append]
    exact ⟨h, by simp, fun a ha b hb e => hk (by rw [List.mem_singleton] at hb; rw [← hb, ← e]; exact ha)⟩
theorem inl_inj (a b : Int) : ((Sum.inl a : Key) = Sum.inl b) = (a = b) := propext ⟨Sum.inl.inj, fun h => by rw [h]⟩
theorem val_setD (z : Int) : ∀ ks : List Nat, (valV (setD ks) (Sum.inl z : Key)).isSome = decide (0 ≤ z ∧ z.toNat ∈ ks)
  | [] => by simp [setD, valV_nil]
  | k :: r => by
    have ih := val_setD z r
    show (valV (((Sum.inl (k : Int) : Key), V.bl true) :: setD r) (Sum.inl z)).isSome = _
    by_cases h : (k : Int) = z
    · rw [valV_pos (by rw [inl_inj]; exact h)]
      symm
      rw [show (some (V.bl true)).isSome = true from rfl, decide_eq_true_eq]
      exact ⟨by omega, by rw [show z.toNat = k by omega]; exact List.mem_cons_self⟩
    · rw [valV_neg (by rw [inl_inj]; exact h), ih, decide_eq_decide, List.mem_cons]
      constructor
      · exact fun h' => ⟨h'.1, .inr h'.2⟩
      · exact fun h' => ⟨h'.1, h'.2.resolve_left (by omega)⟩
theorem put_setD (ks : List Nat) (k : Nat) : putK (setD ks) (Sum.inl (k : Int) : Key) (.bl true) = setD (addK ks k) := by
  by_cases h : k ∈ ks
  · have e : addK ks k = ks := if_pos h
    rw [e]
    unfold putK
    have ha : ((setD ks).any fun kv => decide (kv.1 = (Sum.inl (k : Int) : Key))) = true := by
      rw [valV_any, val_setD, decide_eq_true_eq]
      exact ⟨by omega, by rw [Int.toNat_natCast]; exact h⟩
    rw [if_pos ha]
    unfold setD
    rw [List.map_map]
    apply List.map_congr_left
    intro d _
    show (if ((Sum.inl (d : Int) : Key)) = Sum.inl (k : Int) then _ else _) = _
    split <;> rfl
  · have e : addK ks k = ks ++ [k] := if_neg h
    rw [e, putK_new]
    · unfold setD; rw [List.map_append]; rfl
    · have := val_setD (k : Int) ks
      rw [Int.toNat_natCast, decide_eq_false (fun hh => h hh.2)] at this
      exact Option.isNone_iff_eq_none.mp (by rw [← Option.not_isSome, this]; rfl)
theorem nodup_len : ∀ (N : Nat) (l : List Nat), l.Nodup → (∀ d ∈ l, d < N) → l.length ≤ N
  | 0, l, _, h => by
    cases l with
    | nil => exact Nat.le_refl _
    | cons a r => exact absurd (h a List.mem_cons_self) (Nat.not_lt_zero _)
  | N + 1, l, hn, h => by
    have h1 := nodup_len N (l.filter fun d => decide (d ≠ N)) (hn.filter _) fun d hd => by
      obtain ⟨a, b⟩ := List.mem_filter.mp hd
      have := h d a
      have := of_decide_eq_true b
      omega
    have h2 : l.count N ≤ 1 := List.nodup_iff_count.mp hn N
    have h3 : l.length = l.countP (fun d => decide (d ≠ N)) + l.countP (fun d => ¬ (decide (d ≠ N) = true)) := List.length_eq_countP_add_countP _
    have h4 : l.countP (fun d => ¬ (decide (d ≠ N) = true)) = l.count N := by
      unfold List.count
      apply List.countP_congr
      intro d _
      simp
    rw [← List.countP_eq_length_filter] at h1
    omega
theorem setD_len (ks : List Nat) : (setD ks).length = ks.length := by unfold setD; rw [List.length_map]
section
variable {g : TG} {tb : TS} {D : Ends} {σ : St} {H : Hp}
theorem for_keys {ks : List Nat} {d : Addr} {od : Obj} (Pv : List Nat → St → Hp → Prop) (h0 : Pv [] σ H) (hl : ∀ p σ H, Pv p σ H → H d = some (.frz od (.dK (setD ks))))
    (hs : ∀ p c r σ H, ks = p ++ c :: r → Pv p σ H → g (.int (c : Nat)) σ H fun σ2 H2 => tb { D with nx := Pv (p ++ [c]), ct := Pv (p ++ [c]), bk := D.nx } σ2 H2) (hd : ∀ σ H, Pv ks σ H → D.nx σ H) : LoopOk (Itk d od (setD ks)) g tb D σ H := by
  refine for_it (walk_keys (d := d) (o := od) (kvs := setD ks)) (fun i σ H => Pv (ks.take i) σ H) h0 (fun _ _ _ _ p => hl _ _ _ p) (fun i x σ H H' hi p y => ?_) (fun σ H p => hd σ H ?_)
  · obtain ⟨rfl, k, v, hk, rfl⟩ := y
    unfold setD at hk
    rw [List.getElem?_map] at hk
    cases hc : ks[i]? with
    | none => rw [hc] at hk; cases hk
    | some c =>
      rw [hc] at hk
      cases hk
      obtain ⟨e1, e2, e3⟩ := take_split hc
      rw [e2]
      exact hs _ c _ σ _ e1 p
  · have e : ks.take (setD ks).length = ks := List.take_of_length_le (by rw [setD_len]; exact Nat.le_refl _)
    rw [e] at p
    exact p
end
/-- [F d for d in a locked dict if B d] -/
theorem lc_keysIf {tt : TT} {te : TE} {vs : List Nat} {σ : St} {H1 : Hp} {D : Addr} {Qd : Hp → Prop} {ks : List Nat} {d : Addr} {od : Obj} {j : Nat} (F : Nat → V) (B : Nat → Bool) (hD : H1 D = none) (hn : ks.length ≤ 100000) (hl : H1 d = some (.frz od (.dK (setD ks))))
    (hw : ∀ x, wipe ((wipe σ vs).set j (some x)) vs = wipe σ vs)
    (he : ∀ c H', c ∈ ks → Same H1 H' → ∀ R : Bool → Hp → Prop, (∀ H4, Same H' H4 → R (B c) H4) → tt ((wipe σ vs).set j (some (.int (c : Nat)))) H' R)
    (hf : ∀ c H', c ∈ ks → B c = true → ∀ Q : VK, Q (F c) H' → te ((wipe σ vs).set j (some (.int (c : Nat)))) H' Q)
    (hd : ∀ H, Same H1 H → H D = some (.lst ((ks.filter B).map F)) → Qd H) : CompOk (Itk d od (setD ks)) (gName j) tt te vs σ H1 D Qd := by
  refine lc_it (walk_keys (d := d) (o := od) (kvs := setD ks)) (fun i H => Same H1 H ∧ H D = some (.lst (((ks.take i).filter B).map F))) ⟨Same.new hD, upd_same⟩ (fun i H _ p => p.1 _ _ hl) (fun i x H H' hi p y => ?_) (fun H p => hd H p.1 ?_)
  · obtain ⟨rfl, k, v, hk, rfl⟩ := y
    unfold setD at hk
    rw [List.getElem?_map] at hk
    cases hc : ks[i]? with
    | none => rw [hc] at hk; cases hk
    | some c =>
      rw [hc] at hk
      cases hk
      obtain ⟨e1, e2, e3⟩ := take_split hc
      have hm : c ∈ ks := List.mem_of_getElem? hc
      refine ⟨hw _, he c _ hm p.1 _ fun H4 s4 => ?_⟩
      have g4 := s4 _ _ p.2
      cases hB : B c with
      | true =>
        refine iteT (hf c H4 hm hB _ ⟨_, g4, ?_, (p.1.trans s4).mut hD, ?_⟩)
        · rw [List.length_map]
          have h1 := List.length_filter_le B (ks.take i)
          have h2 := List.length_take_le i ks
          exact sz5l (by rw [List.length_take] at h1; omega)
        · rw [upd_same, e2, List.filter_append, List.map_append]
          simp [hB]
      | false =>
        refine iteF ⟨p.1.trans s4, ?_⟩
        rw [g4, e2, List.filter_append]
        simp [hB]
  · have e : ks.take (setD ks).length = ks := List.take_of_length_le (by rw [setD_len]; exact Nat.le_refl _)
    have := p.2
    rw [e] at this
    exact this
theorem val_ifN {t : TT} {ta tb : TE} {σ : St} {H : Hp} {v1 v2 : V} {c : Bool} (hc : ∀ Q : Bool → Hp → Prop, (∀ H', Same H H' → Q c H') → t σ H Q) (h1 : c = true → ∀ (H' : Hp) (Q : VK), Q v1 H' → ta σ H' Q) (h2 : c = false → ∀ (H' : Hp) (Q : VK), Q v2 H' → tb σ H' Q) :
    ∀ Q : VK, (∀ H', Same H H' → Q (if c then v1 else v2) H') → tIf t ta tb σ H Q := fun Q q => hc _ fun H' s => by
  cases c with
  | true => exact iteT (h1 rfl _ _ (q H' s))
  | false => exact iteF (h2 rfl _ _ (q H' s))
theorem fold_addK : ∀ (q ks : List Nat), ks.Nodup → (q.foldl addK ks).Nodup ∧ ∀ d, d ∈ q.foldl addK ks ↔ d ∈ ks ∨ d ∈ q
  | [], ks, h => ⟨h, fun d => by simp⟩
  | k :: q, ks, h => by
    obtain ⟨a, b⟩ := fold_addK q (addK ks k) (nodup_addK h)
    refine ⟨a, fun d => ?_⟩
    rw [List.foldl_cons, b, mem_addK, List.mem_cons, or_assoc]
theorem Same.both {A B : Hp} {p : Addr} {o : HO} (s : Same A B) : Same (upd A p o) (upd B p o) := fun b u hb => by
  by_cases h : b = p
  · subst h; rw [upd_same] at hb ⊢; exact hb
  · rw [upd_ne h] at hb ⊢; exact s _ _ hb
theorem Same.unlock {H H' : Hp} {d : Addr} {u : HO} {od : Obj} (hd : H d = some u) (s : Same (upd H d (.frz od u)) H') : Same H (upd H' d u) := fun b o hb => by
  by_cases h : b = d
  · subst h
    rw [hd] at hb
    cases hb
    exact upd_same
  · rw [upd_ne h]
    exact s _ _ (by rw [upd_ne h]; exact hb)
end L2
namespace BR
def Rst : List Nat → List (List Nat) → Prop
  | _, [] => False
  | [], ks :: m => (∀ d, d ∈ ks ↔ can [] d = true) ∧ ks.Nodup ∧ m = []
  | c :: r, ks :: m => (∀ d, d ∈ ks ↔ can (c :: r) d = true) ∧ ks.Nodup ∧ Rst r m
theorem Rst.head : ∀ {s : List Nat} {m : List (List Nat)}, Rst s m → ∃ ks m', m = ks :: m' ∧ (∀ d, d ∈ ks ↔ can s d = true) ∧ ks.Nodup
  | [], ks :: m, h => ⟨ks, m, rfl, h.1, h.2.1⟩
  | _ :: _, ks :: m, h => ⟨ks, m, rfl, h.1, h.2.1⟩
  | [], [], h => h.elim
  | _ :: _, [], h => h.elim
theorem Rst.get : ∀ {s : List Nat} {m : List (List Nat)} (i : Nat), Rst s m → i ≤ s.length → ∃ ks, m[i]? = some ks ∧ (∀ d, d ∈ ks ↔ can (s.drop i) d = true) ∧ ks.Nodup
  | s, m, 0, h, _ => by
    obtain ⟨ks, m', rfl, h1, h2⟩ := Rst.head h
    exact ⟨ks, rfl, h1, h2⟩
  | [], m, i + 1, _, hi => by simp at hi
  | c :: r, [], i + 1, h, _ => h.elim
  | c :: r, ks :: m, i + 1, h, hi => by
    obtain ⟨ks', h1, h2⟩ := Rst.get i h.2.2 (by simpa using hi)
    exact ⟨ks', h1, h2⟩
theorem Rst.len : ∀ {s : List Nat} {m : List (List Nat)}, Rst s m → m.length = s.length + 1
  | [], ks :: m, h => by rw [h.2.2]; rfl
  | c :: r, ks :: m, h => by simp [Rst.len h.2.2]
  | [], [], h => h.elim
  | _ :: _, [], h => h.elim
theorem can_le : ∀ (l : List Nat) (d : Nat), can l d = true → d ≤ l.length
  | [], d, h => by have := of_decide_eq_true h; omega
  | c :: r, d, h => by
    rw [can_cons] at h
    rcases h with ⟨_, h⟩ | ⟨_, h0, h⟩
    · have := can_le r _ h; simp only [List.length_cons]; omega
    · have := can_le r _ h; simp only [List.length_cons]; omega
end BR

set_option Elab.async false
set_option linter.all false
set_option maxRecDepth 100000
/-! How many fillings; the one of a number; the number of one. -/
namespace BR
def cnt : List Nat → Nat → Nat
  | [], d => if d = 0 then 1 else 0
  | c :: r, d => (if c = 41 then 0 else cnt r (d + 1)) + (if c ≠ 40 ∧ 0 < d then cnt r (d - 1) else 0)
theorem cnt_pos : ∀ (l : List Nat) (d : Nat), 0 < cnt l d ↔ can l d = true
  | [], d => by
    unfold cnt can
    by_cases h : d = 0 <;> simp [h]
  | c :: r, d => by
    rw [can_cons, ← cnt_pos r, ← cnt_pos r]
    show 0 < (if c = 41 then 0 else cnt r (d + 1)) + (if c ≠ 40 ∧ 0 < d then cnt r (d - 1) else 0) ↔ _
    by_cases h1 : c = 41 <;> by_cases h2 : c ≠ 40 ∧ 0 < d
    · rw [if_pos h1, if_pos h2]; constructor
      · exact fun h => .inr ⟨h2.1, h2.2, by omega⟩
      · exact fun h => h.elim (fun h => absurd h1 h.1) fun h => by omega
    · rw [if_pos h1, if_neg h2]; constructor
      · exact fun h => by omega
      · exact fun h => h.elim (fun h => absurd h1 h.1) fun h => absurd ⟨h.1, h.2.1⟩ h2
    · rw [if_neg h1, if_pos h2]; constructor
      · intro h
        by_cases h0 : 0 < cnt r (d + 1)
        · exact .inl ⟨h1, h0⟩
        · exact .inr ⟨h2.1, h2.2, by omega⟩
      · exact fun h => h.elim (fun h => by omega) fun h => by omega
    · rw [if_neg h1, if_neg h2]; constructor
      · exact fun h => .inl ⟨h1, by omega⟩
      · exact fun h => h.elim (fun h => by omega) fun h => absurd ⟨h.1, h.2.1⟩ h2
theorem cnt_far {l : List Nat} {d : Nat} (h : l.length < d) : cnt l d = 0 := by
  by_cases h0 : 0 < cnt l d
  · have := can_lt_of l d ((cnt_pos l d).mp h0); omega
  · omega
where
  can_lt_of : ∀ (l : List Nat) (d : Nat), can l d = true → d ≤ l.length
    | [], d, h => by have := of_decide_eq_true h; omega
    | c :: r, d, h => by
      rw [can_cons] at h
      rcases h with ⟨_, h⟩ | ⟨_, h0, h⟩
      · have := can_lt_of r _ h; simp only [List.length_cons]; omega
      · have := can_lt_of r _ h; simp only [List.length_cons]; omega
def tsign (c : Nat) (r : List Nat) (d k : Nat) : Nat := if c = 63 then (if k < cnt r (d + 1) then 40 else 41) else c
def tleft (c : Nat) (r : List Nat) (d k : Nat) : Nat := if c = 63 ∧ ¬ k < cnt r (d + 1) then k - cnt r (d + 1) else k
def toldW : List Nat → Nat → Nat → List Nat
  | [], _, _ => []
  | c :: r, d, k => tsign c r d k :: toldW r (if tsign c r d k = 40 then d + 1 else d - 1) (tleft c r d k)
theorem toldW_len : ∀ (l : List Nat) (d k : Nat), (toldW l d k).length = l.length
  | [], _, _ => rfl
  | c :: r, d, k => by simp only [toldW, List.length_cons, toldW_len r]
def rankW : List Nat → Nat → List Nat → Nat
  | c :: r, d, x :: t => (if c = 63 ∧ x = 41 then cnt r (d + 1) else 0) + rankW r (if x = 40 then d + 1 else d - 1) t
  | _, _, _ => 0
theorem cntQu (r : List Nat) (d : Nat) : cnt (63 :: r) d = cnt r (d + 1) + (if 0 < d then cnt r (d - 1) else 0) := by
  show (if 63 = 41 then 0 else cnt r (d + 1)) + (if 63 ≠ 40 ∧ 0 < d then cnt r (d - 1) else 0) = _
  rw [if_neg (by decide)]
  by_cases h : 0 < d
  · rw [if_pos ⟨by decide, h⟩, if_pos h]
  · rw [if_neg (fun hh => h hh.2), if_neg h]
theorem cntOp (r : List Nat) (d : Nat) : cnt (40 :: r) d = cnt r (d + 1) := by
  show (if 40 = 41 then 0 else cnt r (d + 1)) + (if 40 ≠ 40 ∧ 0 < d then cnt r (d - 1) else 0) = _
  rw [if_neg (by decide), if_neg (by simp)]; rfl
theorem cntCl (r : List Nat) (d : Nat) : cnt (41 :: r) d = if 0 < d then cnt r (d - 1) else 0 := by
  show (if 41 = 41 then 0 else cnt r (d + 1)) + (if 41 ≠ 40 ∧ 0 < d then cnt r (d - 1) else 0) = _
  rw [if_pos rfl, Nat.zero_add]
  by_cases h : 0 < d
  · rw [if_pos ⟨by decide, h⟩, if_pos h]
  · rw [if_neg (fun hh => h hh.2), if_neg h]
/-- one step of told -/
theorem told_step {c : Nat} {r : List Nat} {d k : Nat} (hc : c = 40 ∨ c = 41 ∨ c = 63) (h : k < cnt (c :: r) d) :
    (tsign c r d k = 40 ∧ c ≠ 41 ∧ tleft c r d k < cnt r (d + 1)) ∨ (tsign c r d k = 41 ∧ c ≠ 40 ∧ 0 < d ∧ tleft c r d k < cnt r (d - 1)) := by
  unfold tsign tleft
  rcases hc with rfl | rfl | rfl
  · rw [if_neg (by decide), if_neg (by simp)]
    rw [cntOp] at h
    exact .inl ⟨rfl, by decide, h⟩
  · rw [if_neg (by decide), if_neg (by simp)]
    rw [cntCl] at h
    by_cases h0 : 0 < d
    · rw [if_pos h0] at h; exact .inr ⟨rfl, by decide, h0, h⟩
    · rw [if_neg h0] at h; omega
  · rw [cntQu] at h
    rw [if_pos rfl]
    by_cases hk : k < cnt r (d + 1)
    · rw [if_pos hk, if_neg (fun hh => hh.2 hk)]
      exact .inl ⟨rfl, by decide, hk⟩
    · rw [if_neg hk, if_pos ⟨rfl, hk⟩]
      by_cases h0 : 0 < d
      · rw [if_pos h0] at h; exact .inr ⟨rfl, by decide, h0, by omega⟩
      · rw [if_neg h0] at h; omega
theorem told_fil : ∀ (l : List Nat) (d k : Nat), IsRow l → k < cnt l d → Fil l d (toldW l d k)
  | [], d, k, _, h => by
    refine ⟨rfl, ?_⟩
    unfold cnt at h
    by_cases h0 : d = 0
    · exact h0
    · rw [if_neg h0] at h; omega
  | c :: r, d, k, hr, h => by
    have ih := fun e j => told_fil r e j fun y hy => hr y (List.mem_cons_of_mem _ hy)
    refine ⟨_, _, rfl, ?_⟩
    rcases told_step (hr c List.mem_cons_self) h with ⟨e, h1, h2⟩ | ⟨e, h1, h0, h2⟩
    · rw [e, if_pos rfl]; exact .inl ⟨rfl, h1, ih _ _ h2⟩
    · rw [e, if_neg (by decide)]; exact .inr ⟨rfl, h1, h0, ih _ _ h2⟩
theorem rank_told : ∀ (l : List Nat) (d k : Nat), IsRow l → k < cnt l d → rankW l d (toldW l d k) = k
  | [], d, k, _, h => by
    show 0 = k
    unfold cnt at h
    by_cases h0 : d = 0
    · rw [if_pos h0] at h; omega
    · rw [if_neg h0] at h; omega
  | c :: r, d, k, hr, h => by
    have ih := fun e j => rank_told r e j fun y hy => hr y (List.mem_cons_of_mem _ hy)
    show (if c = 63 ∧ tsign c r d k = 41 then cnt r (d + 1) else 0) + rankW r (if tsign c r d k = 40 then d + 1 else d - 1) (toldW r (if tsign c r d k = 40 then d + 1 else d - 1) (tleft c r d k)) = k
    have st := told_step (hr c List.mem_cons_self) h
    have e2 : (if c = 63 ∧ tsign c r d k = 41 then cnt r (d + 1) else 0) + tleft c r d k = k := by
      unfold tleft
      by_cases h63 : c = 63
      · by_cases hk : k < cnt r (d + 1)
        · have e : tsign c r d k = 40 := by unfold tsign; rw [if_pos h63, if_pos hk]
          rw [e, if_neg (by simp), if_neg (fun hh => hh.2 hk), Nat.zero_add]
        · have e : tsign c r d k = 41 := by unfold tsign; rw [if_pos h63, if_neg hk]
          rw [e, if_pos ⟨h63, rfl⟩, if_pos ⟨h63, hk⟩]; omega
      · rw [if_neg (fun hh => h63 hh.1), if_neg (fun hh => h63 hh.1), Nat.zero_add]
    rcases st with ⟨e, h1, h2⟩ | ⟨e, h1, h0, h2⟩
    · rw [e] at e2 ⊢; rw [if_pos rfl, ih _ _ h2]; exact e2
    · rw [e] at e2 ⊢; rw [if_neg (show ¬ (41 = 40) by decide), ih _ _ h2]; exact e2
/-- strictly ahead -/
def llt : List Nat → List Nat → Prop
  | a :: t, b :: u => a < b ∨ (a = b ∧ llt t u)
  | _, _ => False
theorem told_lt : ∀ (l : List Nat) (d k k' : Nat), IsRow l → k < k' → k' < cnt l d → llt (toldW l d k) (toldW l d k')
  | [], d, k, k', _, h, h' => by
    unfold cnt at h'
    by_cases h0 : d = 0
    · rw [if_pos h0] at h'; omega
    · rw [if_neg h0] at h'; omega
  | c :: r, d, k, k', hr, h, h' => by
    have ih := fun e j j' => told_lt r e j j' fun y hy => hr y (List.mem_cons_of_mem _ hy)
    show tsign c r d k < tsign c r d k' ∨ (tsign c r d k = tsign c r d k' ∧ llt (toldW r _ (tleft c r d k)) (toldW r _ (tleft c r d k')))
    have s1 := told_step (k := k) (hr c List.mem_cons_self) (show k < cnt (c :: r) d by omega)
    have s2 := told_step (hr c List.mem_cons_self) h'
    have key : tsign c r d k < tsign c r d k' ∨ (tsign c r d k = tsign c r d k' ∧ tleft c r d k < tleft c r d k') := by
      unfold tsign tleft
      by_cases h63 : c = 63
      · simp only [h63, if_true, true_and]
        by_cases h1 : k < cnt r (d + 1)
        · by_cases h2 : k' < cnt r (d + 1)
          · rw [if_pos h1, if_pos h2, if_neg (fun hh => hh h1), if_neg (fun hh => hh h2)]; exact .inr ⟨rfl, h⟩
          · rw [if_pos h1, if_neg h2]; exact .inl (by decide)
        · have h2 : ¬ k' < cnt r (d + 1) := by omega
          rw [if_neg h1, if_neg h2, if_pos h1, if_pos h2]; exact .inr ⟨rfl, by omega⟩
      · rw [if_neg h63, if_neg h63, if_neg (fun hh => h63 hh.1), if_neg (fun hh => h63 hh.1)]; exact .inr ⟨rfl, h⟩
    rcases key with key | ⟨e, kl⟩
    · exact .inl key
    · refine .inr ⟨e, ?_⟩
      rw [← e]
      rw [← e] at s2
      rcases s2 with ⟨e1, h1, h2⟩ | ⟨e1, h1, h0, h2⟩
      · rw [e1, if_pos rfl]; exact ih _ _ _ kl h2
      · rw [e1, if_neg (by decide)]; exact ih _ _ _ kl h2
theorem told_first : ∀ (l : List Nat) (d : Nat), IsRow l → 0 < cnt l d → toldW l d 0 = greedy true l d
  | [], _, _, _ => rfl
  | c :: r, d, hr, h => by
    have ih := fun e => told_first r e fun y hy => hr y (List.mem_cons_of_mem _ hy)
    have st := told_step (hr c List.mem_cons_self) h
    have el : tleft c r d 0 = 0 := by unfold tleft; split <;> omega
    have es : tsign c r d 0 = gsign true c r d := by
      unfold tsign gsign
      by_cases h63 : c = 63
      · rw [if_pos h63, if_pos h63, if_pos rfl]
        by_cases h1 : 0 < cnt r (d + 1)
        · rw [if_pos h1, if_pos ((cnt_pos ..).mp h1)]
        · rw [if_neg h1, if_neg (fun hh => h1 ((cnt_pos ..).mpr hh))]
      · rw [if_neg h63, if_neg h63]
    show tsign c r d 0 :: toldW r _ (tleft c r d 0) = gsign true c r d :: greedy true r _
    rw [el] at st ⊢
    rw [← es]
    rcases st with ⟨e1, h1, h2⟩ | ⟨e1, h1, h0, h2⟩
    · rw [e1, if_pos rfl, ih _ h2]
    · rw [e1, if_neg (by decide), ih _ h2]
theorem told_last : ∀ (l : List Nat) (d : Nat), IsRow l → 0 < cnt l d → toldW l d (cnt l d - 1) = greedy false l d
  | [], _, _, _ => rfl
  | c :: r, d, hr, h => by
    have ih := fun e => told_last r e fun y hy => hr y (List.mem_cons_of_mem _ hy)
    have hc := hr c List.mem_cons_self
    show tsign c r d (cnt (c :: r) d - 1) :: toldW r _ (tleft c r d (cnt (c :: r) d - 1)) = gsign false c r d :: greedy false r _
    rcases hc with rfl | rfl | rfl
    · have e1 : tsign 40 r d (cnt (40 :: r) d - 1) = 40 := by unfold tsign; rw [if_neg (by decide)]
      have e2 : gsign false 40 r d = 40 := by unfold gsign; rw [if_neg (by decide)]
      have e3 : tleft 40 r d (cnt (40 :: r) d - 1) = cnt r (d + 1) - 1 := by unfold tleft; rw [if_neg (by simp), cntOp]
      rw [cntOp] at h
      rw [e1, e2, e3, if_pos rfl, ih _ h]
    · have e1 : tsign 41 r d (cnt (41 :: r) d - 1) = 41 := by unfold tsign; rw [if_neg (by decide)]
      have e2 : gsign false 41 r d = 41 := by unfold gsign; rw [if_neg (by decide)]
      rw [cntCl] at h
      by_cases h0 : 0 < d
      · have e3 : tleft 41 r d (cnt (41 :: r) d - 1) = cnt r (d - 1) - 1 := by unfold tleft; rw [if_neg (by simp), cntCl, if_pos h0]
        rw [if_pos h0] at h
        rw [e1, e2, e3, if_neg (by decide), ih _ h]
      · rw [if_neg h0] at h; omega
    · by_cases hf : 0 < d ∧ 0 < cnt r (d - 1)
      · have e0 : cnt (63 :: r) d = cnt r (d + 1) + cnt r (d - 1) := by rw [cntQu, if_pos hf.1]
        have e1 : tsign 63 r d (cnt (63 :: r) d - 1) = 41 := by unfold tsign; rw [if_pos rfl, if_neg (by omega)]
        have e2 : gsign false 63 r d = 41 := by
          unfold gsign
          rw [if_pos rfl, if_neg (by decide), if_pos (by rw [decide_eq_true hf.1, (cnt_pos ..).mp hf.2]; rfl)]
        have e3 : tleft 63 r d (cnt (63 :: r) d - 1) = cnt r (d - 1) - 1 := by unfold tleft; rw [if_pos ⟨rfl, by omega⟩]; omega
        rw [e1, e2, e3, if_neg (by decide), ih _ hf.2]
      · have e0 : cnt (63 :: r) d = cnt r (d + 1) := by
          rw [cntQu]
          by_cases h0 : 0 < d
          · rw [if_pos h0]
            have : ¬ 0 < cnt r (d - 1) := fun h => hf ⟨h0, h⟩
            omega
          · rw [if_neg h0]; rfl
        rw [e0] at h
        have e1 : tsign 63 r d (cnt (63 :: r) d - 1) = 40 := by unfold tsign; rw [if_pos rfl, if_pos (by omega)]
        have e2 : gsign false 63 r d = 40 := by
          unfold gsign
          rw [if_pos rfl, if_neg (by decide), if_neg (fun hh => by
            rw [Bool.and_eq_true, decide_eq_true_eq] at hh
            exact hf ⟨hh.1, (cnt_pos ..).mpr hh.2⟩)]
        have e3 : tleft 63 r d (cnt (63 :: r) d - 1) = cnt r (d + 1) - 1 := by unfold tleft; rw [if_neg (by omega), e0]
        rw [e1, e2, e3, if_pos rfl, ih _ h]
end BR

set_option Elab.async false
set_option linter.all false
set_option maxRecDepth 100000
set_option maxHeartbeats 4000000
namespace HT
open PySem PySem.Spec PyProof.Rows L2 BR
local macro_rules | `(tactic| walk_at "sq") => `(tactic| first | exact SqL.of (by assumption) | exact SqL.of upd_same | exact SqT.of (by assumption) | exact SqT.of upd_same | assumption | exact Same.seq (by assumption) (by assumption) | exact Same.seq (Same.trans (by assumption) (by assumption)) (by assumption))
local macro_rules | `(tactic| walk_at "len") => `(tactic| (simp only [List.length_append, List.length_map, List.length_cons, List.length_nil, List.length_set, List.length_replicate, List.length_take, List.length_drop, List.length_reverse, List.length_range, dpi_len, dps_len, len_S]; omega))
local macro_rules | `(tactic| walk_at "g1") => `(tactic| first
  | refine ⟨_, rfl, ?_⟩
  | refine ⟨rfl, ?_⟩
  | refine ⟨_, _, rfl, rfl, @id.{0} _ (by first | decide | omega | exact ⟨by decide, by decide⟩ | exact .inr ⟨by decide, by decide⟩ | (show (0 : Int) < _; decide)), ?_⟩
  | refine ⟨_, _, rfl, rfl, ?_⟩
  | refine ⟨_, _, _, _, rfl, rfl, (by walk_at "sq"), (by first | exact atI_last _ _ | (with_reducible exact atI_nat (by assumption))), ?_⟩
  | refine ⟨.inl ⟨rfl, _, (by walk_at "sq")⟩, ?_⟩
  | refine ⟨_, _, rfl, (by first | exact .inl (by walk_at "sq") | exact .inr (by walk_at "sq")), ?_⟩
  | refine ⟨_, rfl, (by first | exact sz5 (by walk_at "len") | exact szS (by omega)), ?_⟩
  | refine ⟨_, _, _, rfl, rfl, (by assumption), sz5l (by walk_at "len"), ?_⟩)
local macro_rules | `(tactic| walk_at "go") => `(tactic| repeat walk_at "g1")
local macro_rules | `(tactic| walk_at "nxt") => `(tactic| (show tSeq Ends.nx _ _ _ _; refine nx_in ?_))

section
variable {P : Program} {w : World} {K : PySem.W.Frag} {mg : Str → Option Value} {base : Heap}
abbrev nts (ks : List Nat) : List V := ks.map fun n : Nat => V.int n
abbrev rfl_ {α : Type} (L : List (Addr × α)) : List V := L.map fun e => V.ref e.1
def ListsAt (H : Hp) (L : List (Addr × List Nat)) : Prop := ∀ e ∈ L, H e.1 = some (.lst (nts e.2))
structure TabOk (n : Nat) (s ks : List Nat) : Prop where
  len : ks.length = min s.length (n - s.length) + 3
  in_ : ∀ d, d ≤ min s.length (n - s.length) → ks[d]? = some (cnt s d)
  out : ∀ d, min s.length (n - s.length) < d → d < ks.length → ks[d]? = some 0
/-- one more open is read aright -/
theorem TabOk.up {n : Nat} {s ks : List Nat} (h : TabOk n s ks) {d : Nat} (h1 : d ≤ s.length + 1) (h2 : d + 1 ≤ n - s.length) : d + 1 < ks.length ∧ ks[d + 1]? = some (cnt s (d + 1)) := by
  have hl := h.len
  refine ⟨by omega, ?_⟩
  by_cases hin : d + 1 ≤ min s.length (n - s.length)
  · exact h.in_ _ hin
  · rw [h.out _ (by omega) (by omega), cnt_far (by omega)]
def spTableOf (T : Txt K mg) : Sp := fun vs H Q _ => ∃ l, vs = [S l] ∧ l.length ≤ 1000 ∧ IsRow l ∧ ∀ H' p L, Same H H' → H p = none → H' p = some (.lst (rfl_ L)) → ListsAt H' L → (∀ i, i ≤ l.length → ∃ ks, (L.map (·.2))[i]? = some ks ∧ TabOk l.length (l.drop i) ks) → Q (.ref p) H'
theorem okTableOf (T : Txt K mg) : FnOk P w K mg base CX0 2 T.f_table_of.a T.f_table_of.fd ["row"] (spTableOf T) := by
  refine T.f_table_of.F.ok scTableOf (fun vs H Q E h => ?_) (fun cdv A outer s H vs Q E hr h => ?_)
  · obtain ⟨l, rfl, _⟩ := h
    rfl
  · obtain ⟨l, rfl, hl, hrw, q⟩ := h
    refine ⟨_, (pss_cons (ps_set (i := 1) scTableOf.nd rfl (by first | exact Or.inl rfl | exact Or.inr rfl) (pe_lst (pa_cons (pe_lst (pa_cons pe_int (pa_cons pe_int (pa_cons pe_int pa_nil)))) pa_nil)))
      (pss_cons (ps_for PassesOwn.never rfl (pi_range2 (by rfl) T.n_range (pa_cons pe_int (pa_cons (pe_op op_add (pe_callB call_len_str (by rfl) T.n_len PySem.boot_len (pa_cons (pv 0) pa_nil)) pe_int) pa_nil))) (pg_name (i := 2) scTableOf.nd rfl (by first | exact Or.inl rfl | exact Or.inr rfl))
      (pss_cons (ps_set (i := 3) scTableOf.nd rfl (by first | exact Or.inl rfl | exact Or.inr rfl) (pe_ix ix_str (pv 0) (pe_op op_sub (pe_callB call_len_str (by rfl) T.n_len PySem.boot_len (pa_cons (pv 0) pa_nil)) (pv 2)) (fun _ _ => rfl)))
      (pss_cons (ps_set (i := 4) scTableOf.nd rfl (by first | exact Or.inl rfl | exact Or.inr rfl) (pe_ix ix_list (pv 1) (pe_un un_neg pe_int) (fun _ _ => rfl)))
      (pss_cons (ps_set (i := 5) scTableOf.nd rfl (by first | exact Or.inl rfl | exact Or.inr rfl) (pe_lst pa_nil))
      (pss_cons (ps_for PassesOwn.never rfl (pi_range1 (by rfl) T.n_range (pa_cons (pe_op op_add (pe_callB (call_min2 rfl) (by rfl) T.n_min (by decide +kernel) (pa_cons (pv 2) (pa_cons (pe_op op_sub (pe_callB call_len_str (by rfl) T.n_len PySem.boot_len (pa_cons (pv 0) pa_nil)) (pv 2)) pa_nil))) pe_int) pa_nil)) (pg_name (i := 6) scTableOf.nd rfl (by first | exact Or.inl rfl | exact Or.inr rfl))
      (pss_cons (ps_set (i := 7) scTableOf.nd rfl (by first | exact Or.inl rfl | exact Or.inr rfl) pe_int)
      (pss_cut2 (ps_if (PW.pt (pw_and (pt_cmpR op_ne (pv 3) pe_str (nomark _)) (pw_and1 (pt_cmpR op_lt (pe_op op_add (pv 6) pe_int) (pe_callB call_len_seq (by rfl) T.n_len PySem.boot_len (pa_cons (pv 4) pa_nil)) (nomark _))))) (pss_one (ps_set (i := 7) scTableOf.nd rfl (by first | exact Or.inl rfl | exact Or.inr rfl) (pe_op op_add (pv 7) (pe_ix ix_list (pv 4) (pe_op op_add (pv 6) pe_int) (fun _ _ => rfl)))))
      pss_nil)
      (pss_cut2 (ps_if (PW.pt (pw_and (pt_cmpR op_ne (pv 3) pe_str (nomark _)) (pw_and1 (pt_cmpR op_gt (pv 6) pe_int (nomark _))))) (pss_one (ps_set (i := 7) scTableOf.nd rfl (by first | exact Or.inl rfl | exact Or.inr rfl) (pe_op op_add (pv 7) (pe_ix ix_list (pv 4) (pe_op op_sub (pv 6) pe_int) (fun _ _ => rfl)))))
      pss_nil)
      (pss_one (ps_expr (pe_bm PySem.F.plainAttrs_list PySem.F.slot_list_append PySem.F.type_list_append mt_append (pv 5) (pa_cons (pv 7) pa_nil))))))))
      (pss_one (ps_expr (pe_bm PySem.F.plainAttrs_list PySem.F.slot_list_append PySem.F.type_list_append mt_append (pv 1) (pa_cons (pe_op op_cat (pv 5) (pe_lst (pa_cons pe_int (pa_cons pe_int pa_nil)))) pa_nil)))))))))
      (pss_one (ps_ret (pe_revL (pv 1)))))), ?_⟩
    refine ⟨sz5 (by simp), fun p0 np0 => ⟨sz5 (by simp), fun o no => ?_⟩⟩
    have s0 := Same.new np0 (o := HO.lst [V.int 1, V.int 0, V.int 0])
    have ho0 : H o = none := s0.free no
    refine ⟨_, rfl, St_ l, rfl, szS (by omega), _, _, rfl, rfl, ?_⟩
    have er : (((St_ l).length : Int) + 1 - 1).toNat = l.length := by rw [len_S]; omega
    refine ⟨_, _, rfl, (by rw [len_S]; omega), ?_⟩
    rw [er]
    refine for_range (lo := 1) (n := l.length) (fun i σ H' => ∃ x2 x3 x4 x5 x6 x7 M, σ = [some (S l), some (.ref o), x2, x3, x4, x5, x6, x7] ∧ Same H H' ∧ H' o = some (.lst (rfl_ M)) ∧ ListsAt H' M ∧ (∀ e ∈ M, e.1 ≠ o) ∧ M.length = i + 1 ∧ i ≤ l.length ∧ ∀ j, j ≤ i → ∃ ks, (M.map (·.2))[j]? = some ks ∧ TabOk l.length (l.drop (l.length - j)) ks)
      ⟨_, _, _, _, _, _, [(p0, [1, 0, 0])], rfl, s0.trans (Same.new no), upd_same, ?_, ?_, rfl, Nat.zero_le _, ?_⟩ ?_ ?_
    · intro e he
      cases List.mem_singleton.mp he
      exact Same.new no _ _ upd_same
    · intro e he
      cases List.mem_singleton.mp he
      exact ne_of_none upd_same no
    · intro j hj
      have : j = 0 := by omega
      subst this
      rw [Nat.sub_zero, List.drop_length]
      refine ⟨[1, 0, 0], rfl, by simp, fun d hd => ?_, fun d h1 h2 => ?_⟩
      · have : d = 0 := by simp at hd; omega
        subst this; rfl
      · simp at h1 h2
        obtain rfl | rfl : d = 1 ∨ d = 2 := by omega
        · rfl
        · rfl
    · rintro i σ H3 hi ⟨x2, x3, x4, x5, x6, x7, M, rfl, sm, g, hM, hne, hlen, hil, htab⟩
      have e1 : (1 : Int) + (i : Int) = ((i + 1 : Nat) : Int) := by omega
      rw [e1]
      have hj : l.length - 1 - i < l.length := by omega
      have hcget : l[l.length - 1 - i]? = some l[l.length - 1 - i] := List.getElem?_eq_getElem hj
      obtain ⟨c, hcdef⟩ : ∃ c, c = l[l.length - 1 - i] := ⟨_, rfl⟩
      rw [← hcdef] at hcget
      have hcc : c = 40 ∨ c = 41 ∨ c = 63 := hrw c (List.mem_of_getElem? hcget)
      have hdc : l.drop (l.length - (i + 1)) = c :: l.drop (l.length - i) := by
        rw [show l.length - (i + 1) = l.length - 1 - i by omega, List.drop_eq_getElem_cons hj, ← hcdef, show l.length - 1 - i + 1 = l.length - i by omega]
      obtain ⟨s, hs⟩ : ∃ s, s = l.drop (l.length - i) := ⟨_, rfl⟩
      have hsl : s.length = i := by rw [hs, List.length_drop]; omega
      rw [← hs] at hdc
      obtain ⟨ks, hk1, hk2⟩ := htab i (Nat.le_refl _)
      rw [← hs] at hk2
      have hML : M.map (·.2) = (M.map (·.2)).take i ++ [ks] := by
        have h1 := List.take_append_drop i (M.map (·.2))
        have h2 : (M.map (·.2)).drop i = [ks] := by
          have h3 : i < (M.map (·.2)).length := by rw [List.length_map]; omega
          rw [List.drop_eq_getElem_cons h3]
          rw [List.getElem?_eq_getElem h3] at hk1
          rw [Option.some.inj hk1]
          congr 1
          exact List.drop_eq_nil_of_le (by rw [List.length_map]; omega)
        rw [h2] at h1
        exact h1.symm
      obtain ⟨M0, a, hMe, hM0⟩ := last_of hML
      have ha := hM (a, ks) (by rw [hMe]; simp)
      have hge : rfl_ M = M0.map (fun e => V.ref e.1) ++ [V.ref a] := by rw [hMe]; unfold rfl_; rw [List.map_append]; rfl
      refine ⟨_, rfl, _, rfl, St_ l, rfl, szS (by omega), _, rfl, _, _, rfl, rfl, St_ l, _, c, rfl, rfl, szS (by omega), ?_, ?_⟩
      · rw [len_S, show (l.length : Int) - ((i + 1 : Nat) : Int) = ((l.length - 1 - i : Nat) : Int) by omega]
        exact atI_nat hcget
      refine ⟨_, rfl, 1, rfl, o, _, _, .ref a, rfl, rfl, SqL.of g, (by rw [hge]; exact atI_last _ _), ?_⟩
      refine ⟨Nat.zero_le _, fun nw nnw => ?_⟩
      have hnwo : nw ≠ o := fun h => by rw [h, g] at nnw; cases nnw
      have hnwa : nw ≠ a := fun h => by rw [h, ha] at nnw; cases nnw
      have emin : (min ((i + 1 : Nat) : Int) (((St_ l).length : Int) - ((i + 1 : Nat) : Int)) + 1).toNat = min (i + 1) (l.length - (i + 1)) + 1 := by rw [len_S]; omega
      refine ⟨_, rfl, _, rfl, St_ l, rfl, szS (by omega), _, rfl, _, _, rfl, rfl, _, _, rfl, _, _, rfl, rfl, _, rfl, ?_⟩
      rw [min2]
      refine ⟨(by rw [len_S]; omega), (by rw [len_S]; omega), ?_⟩
      rw [emin]
      obtain ⟨B, hB⟩ : ∃ B, B = min (i + 1) (l.length - (i + 1)) := ⟨_, rfl⟩
      rw [← hB]
      have H4s : Same H3 (upd H3 nw (.lst [])) := Same.new nnw
      refine for_range (lo := 0) (n := B + 1) (fun d σ H' => ∃ x6 x7, σ = [some (S l), some (.ref o), some (.int ((i + 1 : Nat) : Int)), some (ch c), some (.ref a), some (.ref nw), x6, x7] ∧ Same H3 H' ∧ H' nw = some (.lst (nts ((List.range d).map (cnt (c :: s))))) ∧ d ≤ B + 1) ⟨_, _, rfl, H4s, upd_same, Nat.zero_le _⟩ ?_ ?_
      · rintro d σ H5 hd ⟨x6', x7', rfl, s5, h5, _⟩
        rw [Int.zero_add]
        have ha5 := s5 _ _ ha
        have hks := hk2.len
        rw [hsl] at hks
        obtain ⟨A0, hA0⟩ : ∃ A0, A0 = if c = 41 then 0 else cnt s (d + 1) := ⟨_, rfl⟩
        refine sq_set (.int 0) (fun Q q => q) ?_
        refine ⟨fun σ' H' => σ' = [some (S l), some (.ref o), some (.int ((i + 1 : Nat) : Int)), some (ch c), some (.ref a), some (.ref nw), some (.int (d : Int)), some (.int ((A0 : Nat) : Int))] ∧ H' = H5, ?_, ?_⟩
        · refine ⟨_, rfl, rfl, _, rfl, ?_⟩
          by_cases h41 : c = 41
          · rw [if_pos h41] at hA0
            subst hA0
            exact iteNS ((eq_cl c).mpr h41) ⟨rfl, rfl⟩
          · rw [if_neg h41] at hA0
            subst hA0
            obtain ⟨u1, u2⟩ := hk2.up (d := d) (by rw [hsl]; omega) (by rw [hsl]; omega)
            refine iteNT (fun e => h41 ((eq_cl c).mp e)) ⟨_, rfl, _, _, rfl, rfl, _, rfl, a, _, rfl, .inl (SqL.of ha5), _, _, rfl, rfl, _, rfl, ?_⟩
            refine iteD (show (d : Int) + 1 < (((nts ks).length : Nat) : Int) by rw [List.length_map]; omega) ⟨_, rfl, _, rfl, _, rfl, _, _, rfl, rfl, a, _, _, _, rfl, rfl, SqL.of ha5, atI_nat (j := d + 1) (by rw [List.getElem?_map, u2]; rfl), _, _, rfl, rfl, ?_, rfl⟩
            show [_, _, _, _, _, _, _, some (V.int (0 + ((cnt s (d + 1) : Nat) : Int)))] = _
            rw [Int.zero_add]
        rintro σ' H' ⟨rfl, rfl⟩
        refine ⟨fun σ' H'' => σ' = [some (S l), some (.ref o), some (.int ((i + 1 : Nat) : Int)), some (ch c), some (.ref a), some (.ref nw), some (.int (d : Int)), some (.int ((cnt (c :: s) d : Nat) : Int))] ∧ H'' = H', ?_, ?_⟩
        · have ec : cnt (c :: s) d = A0 + (if c ≠ 40 ∧ 0 < d then cnt s (d - 1) else 0) := by rw [hA0]; rfl
          refine ⟨_, rfl, rfl, _, rfl, ?_⟩
          by_cases h40 : c = 40
          · rw [if_neg (fun h => h.1 h40), Nat.add_zero] at ec
            exact iteNS ((eq_op c).mpr h40) ⟨by rw [ec], rfl⟩
          · refine iteNT (fun e => h40 ((eq_op c).mp e)) ⟨_, rfl, _, _, rfl, rfl, _, rfl, ?_⟩
            by_cases h0 : 0 < d
            · rw [if_pos ⟨h40, h0⟩] at ec
              have u2 := hk2.in_ (d - 1) (by rw [hsl]; omega)
              refine iteD (show (0 : Int) < (d : Int) by omega) ⟨_, rfl, _, rfl, _, rfl, _, _, rfl, rfl, a, _, _, V.int ((cnt s (d - 1) : Nat) : Int), rfl, rfl, SqL.of ha5, ?_, _, _, rfl, rfl, ?_, rfl⟩
              · rw [show (d : Int) - 1 = ((d - 1 : Nat) : Int) by omega]
                exact atI_nat (by rw [List.getElem?_map, u2]; rfl)
              · rw [ec, Int.natCast_add]; rfl
            · rw [if_neg (fun h => h0 h.2), Nat.add_zero] at ec
              exact iteDn (show ¬ (0 : Int) < (d : Int) by omega) ⟨by rw [ec], rfl⟩
        rintro σ' H'' ⟨rfl, rfl⟩
        refine ⟨_, rfl, .inl ⟨rfl, _, SqL.of h5⟩, _, rfl, _, _, _, rfl, rfl, h5, sz5l (by simp; omega), _, _, rfl, s5.mut nnw, ?_, by omega⟩
        rw [upd_same, List.range_succ, List.map_append]
        simp [nts]
      · rintro σ H5 ⟨x6', x7', rfl, s5, h5, _⟩
        have g5 := s5 _ _ g
        refine ⟨_, rfl, .inl ⟨rfl, _, SqL.of g5⟩, ?_⟩
        refine ⟨_, rfl, sz5 (by simp), fun pz npz => ⟨nw, pz, _, _, rfl, rfl, Same.new npz _ _ h5, upd_same, sz5 (by simp; omega), fun pr npr => ?_⟩⟩
        have s57 := (Same.new npz (o := HO.lst [V.int 0, V.int 0])).trans (Same.new npr (o := HO.lst (nts ((List.range (B + 1)).map (cnt (c :: s))) ++ [V.int 0, V.int 0])))
        have s37 := s5.trans s57
        have g7 := s37 _ _ g
        have hpr : (upd (upd H5 pz (.lst [V.int 0, V.int 0])) pr (.lst (nts ((List.range (B + 1)).map (cnt (c :: s))) ++ [V.int 0, V.int 0]))) pr = some (.lst (nts ((List.range (B + 1)).map (cnt (c :: s))) ++ [V.int 0, V.int 0])) := upd_same
        generalize upd (upd H5 pz (.lst [V.int 0, V.int 0])) pr (.lst (nts ((List.range (B + 1)).map (cnt (c :: s))) ++ [V.int 0, V.int 0])) = H7 at *
        refine ⟨_, _, _, rfl, rfl, g7, sz5l (by rw [List.length_map]; omega), _, _, _, _, _, _, M ++ [(pr, (List.range (B + 1)).map (cnt (c :: s)) ++ [0, 0])], rfl, (sm.trans s37).mut ho0, ?_, ?_, ?_, by walk_at "len", by omega, ?_⟩
        · rw [upd_same]; simp [rfl_]
        · intro e he
          rcases List.mem_append.mp he with he | he
          · have h7 := s37 _ _ (hM e he)
            rw [upd_ne (hne e he)]
            exact h7
          · cases List.mem_singleton.mp he
            have : pr ≠ o := fun h => by rw [h, (s5.trans (Same.new npz (o := HO.lst [V.int 0, V.int 0]))) _ _ g] at npr; cases npr
            rw [upd_ne this, hpr, nts, nts, List.map_append]
            rfl
        · intro e he
          rcases List.mem_append.mp he with he | he
          · exact hne e he
          · cases List.mem_singleton.mp he
            exact fun h => by
              have h : pr = o := h
              rw [h, (s5.trans (Same.new npz (o := HO.lst [V.int 0, V.int 0]))) _ _ g] at npr; cases npr
        · intro j hj
          by_cases hj2 : j ≤ i
          · obtain ⟨ks', h1, h2⟩ := htab j hj2
            refine ⟨ks', ?_, h2⟩
            rw [List.map_append, List.getElem?_append_left (by rw [List.length_map]; omega)]
            exact h1
          · have : j = i + 1 := by omega
            subst this
            rw [hdc]
            refine ⟨(List.range (B + 1)).map (cnt (c :: s)) ++ [0, 0], ?_, ⟨?_, fun d hd => ?_, fun d h1 h2 => ?_⟩⟩
            · rw [List.map_append, List.getElem?_append_right (by rw [List.length_map]; omega), List.length_map, hlen, Nat.sub_self]; rfl
            · simp [hsl, hB]
            · have hd' : d < B + 1 := by rw [hB]; simp only [List.length_cons, hsl] at hd; omega
              rw [List.getElem?_append_left (by simp; omega), List.getElem?_map, List.getElem?_range hd']; rfl
            · have hd1 : B < d := by rw [hB]; simp only [List.length_cons, hsl] at h1; omega
              have hd2 : d < B + 3 := by simp at h2; omega
              rw [List.getElem?_append_right (by simp; omega)]
              simp only [List.length_map, List.length_range]
              obtain h | h : d - (B + 1) = 0 ∨ d - (B + 1) = 1 := by omega
              · rw [h]; rfl
              · rw [h]; rfl
    · rintro σ H3 ⟨x2, x3, x4, x5, x6, x7, M, rfl, sm, g, hM, hne, hlen, hil, htab⟩
      refine ⟨_, rfl, o, _, rfl, SqL.of g, fun p np => q _ p M.reverse (sm.trans (Same.new np)) (sm.free np) ?_ ?_ ?_⟩
      · rw [upd_same]; simp [rfl_]
      · intro e he
        exact Same.new np _ _ (hM e (List.mem_reverse.mp he))
      · intro i hi
        obtain ⟨ks, h1, h2⟩ := htab (l.length - i) (by omega)
        rw [show l.length - (l.length - i) = i by omega] at h2
        refine ⟨ks, ?_, h2⟩
        rw [List.map_reverse, List.getElem?_reverse (by rw [List.length_map]; omega), List.length_map, hlen, show l.length + 1 - 1 - i = l.length - i by omega]
        exact h1
end
end HT

set_option Elab.async false
set_option linter.all false
set_option maxRecDepth 100000
set_option maxHeartbeats 4000000
namespace HT
open PySem PySem.Spec PyProof.Rows L2 BR
local macro_rules | `(tactic| walk_at "sq") => `(tactic| first | exact SqL.of (by assumption) | exact SqL.of upd_same | exact SqT.of (by assumption) | exact SqT.of upd_same | assumption | exact Same.seq (by assumption) (by assumption) | exact Same.seq (Same.trans (by assumption) (by assumption)) (by assumption))
local macro_rules | `(tactic| walk_at "len") => `(tactic| (simp only [List.length_append, List.length_map, List.length_cons, List.length_nil, List.length_set, List.length_replicate, List.length_take, List.length_drop, List.length_reverse, List.length_range, dpi_len, dps_len, len_S]; omega))
local macro_rules | `(tactic| walk_at "g1") => `(tactic| first
  | refine ⟨_, rfl, ?_⟩
  | refine ⟨rfl, ?_⟩
  | refine ⟨_, _, rfl, rfl, @id.{0} _ (by first | decide | omega | exact ⟨by decide, by decide⟩ | exact .inr ⟨by decide, by decide⟩ | (show (0 : Int) < _; decide)), ?_⟩
  | refine ⟨_, _, rfl, rfl, ?_⟩
  | refine ⟨_, _, _, _, rfl, rfl, (by walk_at "sq"), (by first | exact atI_last _ _ | (with_reducible exact atI_nat (by assumption))), ?_⟩
  | refine ⟨.inl ⟨rfl, _, (by walk_at "sq")⟩, ?_⟩
  | refine ⟨_, _, rfl, (by first | exact .inl (by walk_at "sq") | exact .inr (by walk_at "sq")), ?_⟩
  | refine ⟨_, rfl, (by first | exact sz5 (by walk_at "len") | exact szS (by omega)), ?_⟩
  | refine ⟨_, _, _, rfl, rfl, (by assumption), sz5l (by walk_at "len"), ?_⟩)
local macro_rules | `(tactic| walk_at "go") => `(tactic| repeat walk_at "g1")
local macro_rules | `(tactic| walk_at "nxt") => `(tactic| (show tSeq Ends.nx _ _ _ _; refine nx_in ?_))

section
variable {P : Program} {w : World} {K : PySem.W.Frag} {mg : Str → Option Value} {base : Heap}
def TabsAt (H : Hp) (l : List Nat) (L : List (Addr × List Nat)) : Prop := ListsAt H L ∧ ∀ i, i ≤ l.length → ∃ ks, (L.map (·.2))[i]? = some ks ∧ TabOk l.length (l.drop i) ks
theorem TabsAt.get {H : Hp} {l : List Nat} {L : List (Addr × List Nat)} (h : TabsAt H l L) {i : Nat} (hi : i ≤ l.length) : ∃ a ks, (rfl_ L)[i]? = some (.ref a) ∧ H a = some (.lst (nts ks)) ∧ TabOk l.length (l.drop i) ks := by
  obtain ⟨ks, h1, h2⟩ := h.2 i hi
  obtain ⟨a, ha⟩ := get_of rfl h1
  exact ⟨a, ks, by unfold rfl_; rw [List.getElem?_map, ha]; rfl, h.1 _ (List.mem_of_getElem? ha), h2⟩
theorem TabsAt.keep {H H' : Hp} {l : List Nat} {L : List (Addr × List Nat)} (h : TabsAt H l L) (s : Same H H') : TabsAt H' l L := ⟨fun e he => s _ _ (h.1 e he), h.2⟩
theorem tab_zero {l ks : List Nat} (h : TabOk l.length (l.drop 0) ks) : (nts ks)[0]? = some (.int ((cnt l 0 : Nat) : Int)) := by
  have := h.in_ 0 (Nat.zero_le _)
  rw [List.drop_zero] at this
  rw [List.getElem?_map, this]; rfl
def spHowMany (T : Txt K mg) : Sp := fun vs H Q E => ∃ v, vs = [v] ∧ ((∃ l, v = S l ∧ l.length ≤ 1000 ∧ (¬ IsRow l → E (.ref T.c_BadRow) none H) ∧ (IsRow l → ∀ H', Same H H' → Q (.int ((cnt l 0 : Nat) : Int)) H')) ∨ (NotS K H v ∧ E (.ref T.c_BadRow) none H))
theorem okHowMany (T : Txt K mg) : FnOk P w K mg base (L2N.CX P w) 3 T.f_how_many.a T.f_how_many.fd ["row"] (spHowMany T) := by
  refine T.f_how_many.F.okXN scHowMany (fun vs H Q E h => ?_) (fun cdv A outer s H vs Q E hr h => ?_)
  · obtain ⟨v, rfl, _⟩ := h
    rfl
  · obtain ⟨v, rfl, h⟩ := h
    refine ⟨_, (pss_cons (ps_expr (pe_call (okAskedRow T) (hr.mono (by decide)) (by rfl) T.f_asked_row.g T.f_asked_row.F.kp T.f_asked_row.b .nil (L2N.passes_call (L2N.takes_of rfl rfl rfl rfl) (fun _ _ _ _ h => h)) (pa_cons (pv 0) pa_nil)))
      (pss_one (ps_ret (pe_ix ix_list (pe_ix ix_list (pe_call (okTableOf T) (hr.mono (by decide)) (by rfl) T.f_table_of.g T.f_table_of.F.kp T.f_table_of.b .nil pass0 (pa_cons (pv 0) pa_nil)) pe_int (fun _ _ => rfl)) pe_int (fun _ _ => rfl))))), ?_⟩
    rcases h with ⟨l, rfl, hl, q1, q2⟩ | ⟨hn, q⟩
    · refine ⟨_, rfl, S l, rfl, .inl ⟨l, rfl, by omega, fun hrw => ?_, q1⟩⟩
      refine ⟨_, rfl, l, rfl, hl, hrw, fun H1 p L s1 np hp hL ht => ?_⟩
      obtain ⟨a, ks, h1, h2, h3⟩ := TabsAt.get ⟨hL, ht⟩ (Nat.zero_le _)
      exact ⟨p, _, 0, .ref a, rfl, rfl, SqL.of hp, atI_nat (j := 0) h1, a, _, 0, _, rfl, rfl, SqL.of h2, atI_nat (j := 0) (tab_zero h3), q2 hrw _ s1⟩
    · exact ⟨_, rfl, v, rfl, .inr ⟨hn, q⟩⟩
/-- a value that is no whole number -/
def NotI (K : PySem.W.Frag) (H : Hp) (v : V) : Prop := ∀ H', Same H H' → ∃ t, TyX K H' v t ∧ PySem.W.kitOne K t (.type "int") = some false
def spTold (T : Txt K mg) : Sp := fun vs H Q E => ∃ v n, vs = [v, n] ∧ Asks T v H E fun l => l.length ≤ 1000 ∧ ((∃ k : Nat, n = .int k ∧ k < cnt l 0 ∧ ∀ H', Same H H' → Q (S (toldW l 0 k)) H') ∨
  ((NotI K H n ∨ (∃ b, n = .bl b) ∨ ∃ z : Int, n = .int z ∧ ¬ (0 ≤ z ∧ z < cnt l 0)) ∧ ∀ H', Same H H' → E (.ref T.c_BadNumber) none H'))
theorem okTold (T : Txt K mg) : FnOk P w K mg base (L2N.CX P w) 4 T.f_told.a T.f_told.fd ["row", "number"] (spTold T) := by
  refine T.f_told.F.okXN scTold (fun vs H Q E h => ?_) (fun cdv A outer s H vs Q E hr h => ?_)
  · obtain ⟨v, n, rfl, _⟩ := h
    rfl
  · obtain ⟨v, n, rfl, h⟩ := h
    refine ⟨_, (pss_cons (ps_expr (pe_call (okAskedFilling T) (hr.mono (by decide)) (by rfl) T.f_asked_filling.g T.f_asked_filling.F.kp T.f_asked_filling.b .nil (L2N.passes_call (L2N.takes_of rfl rfl rfl rfl) (fun _ _ _ _ h => h)) (pa_cons (pv 0) pa_nil)))
      (pss_cons (ps_set (i := 2) scTold.nd rfl (by first | exact Or.inl rfl | exact Or.inr rfl) (pe_call (okTableOf T) (hr.mono (by decide)) (by rfl) T.f_table_of.g T.f_table_of.F.kp T.f_table_of.b .nil pass0 (pa_cons (pv 0) pa_nil)))
      (pss_cons (ps_if (PW.pt (pw_or (pt_not (pt_val (pe_callB call_isi (by rfl) T.n_isinstance (by decide +kernel) (pa_cons (pv 1) (pa_cons (pe_bltn (v := .ty "int") (by rfl) T.n_int (by decide +kernel) rfl) pa_nil))))) (pw_or (pt_val (pe_callB call_isi (by rfl) T.n_isinstance (by decide +kernel) (pa_cons (pv 1) (pa_cons (pe_bltn (v := .ty "bool") (by rfl) T.n_bool (by decide +kernel) rfl) pa_nil)))) (pw_or1 (pt_not (pt_chain op_le op_lt pe_int (pv 1) (pe_ix ix_list (pe_ix ix_list (pv 2) pe_int (fun _ _ => rfl)) pe_int (fun _ _ => rfl)))))))) (pss_one (L2N.ps_raise rfl (L2N.takes_of rfl rfl rfl rfl) (L2N.pmk_own PySem.F.excBase_ValueError T.x_BadNumber T.g_BadNumber T.k_BadNumber (raises_own T.b_BadNumber T.t_BadNumber) (by rfl))))
      pss_nil)
      (PSs.nox (pss_cons (ps_set (i := 3) scTold.nd rfl (by first | exact Or.inl rfl | exact Or.inr rfl) (pv 1))
      (pss_cons (ps_set (i := 4) scTold.nd rfl (by first | exact Or.inl rfl | exact Or.inr rfl) pe_int)
      (pss_cons (ps_set (i := 5) scTold.nd rfl (by first | exact Or.inl rfl | exact Or.inr rfl) (pe_lst pa_nil))
      (pss_cons (ps_for PassesOwn.never rfl (pi_enumS (by rfl) T.n_enumerate (pa_cons (pv 0) pa_nil)) (pg_tup rfl (pgs_cons (pg_name (i := 6) scTold.nd rfl (by first | exact Or.inl rfl | exact Or.inr rfl)) (pgs_cons (pg_name (i := 7) scTold.nd rfl (by first | exact Or.inl rfl | exact Or.inr rfl)) pgs_nil)))
      (pss_cut2 (ps_if (pt_cmpR op_eq (pv 7) pe_str (nomark _)) (pss_cons (ps_set (i := 8) scTold.nd rfl (by first | exact Or.inl rfl | exact Or.inr rfl) (pe_ix ix_list (pe_ix ix_list (pv 2) (pe_op op_add (pv 6) pe_int) (fun _ _ => rfl)) (pe_op op_add (pv 4) pe_int) (fun _ _ => rfl)))
      (pss_cons (ps_set (i := 7) scTold.nd rfl (by first | exact Or.inl rfl | exact Or.inr rfl) pe_str)
      (pss_one (ps_if (pt_cmpR op_ge (pv 3) (pv 8) (nomark _)) (pss_cons (ps_set (i := 3) scTold.nd rfl (by first | exact Or.inl rfl | exact Or.inr rfl) (pe_op op_sub (pv 3) (pv 8)))
      (pss_one (ps_set (i := 7) scTold.nd rfl (by first | exact Or.inl rfl | exact Or.inr rfl) pe_str)))
      pss_nil))))
      pss_nil)
      (pss_cons (ps_set (i := 4) scTold.nd rfl (by first | exact Or.inl rfl | exact Or.inr rfl) (pe_ifExp (pt_cmpR op_eq (pv 7) pe_str (nomark _)) (pe_op op_add (pv 4) pe_int) (pe_op op_sub (pv 4) pe_int)))
      (pss_one (ps_expr (pe_bm PySem.F.plainAttrs_list PySem.F.slot_list_append PySem.F.type_list_append mt_append (pv 5) (pa_cons (pv 7) pa_nil)))))))
      (pss_one (ps_ret (pe_join pe_str (pv 5)))))))))))), ?_⟩
    rcases h with ⟨l, rfl, hl8, q1, q2, q3⟩ | ⟨hn, q⟩
    · refine ⟨_, rfl, S l, rfl, .inl ⟨l, rfl, hl8, q1, q2, fun hrw hc H1 s1 => ?_⟩⟩
      obtain ⟨hl, q3⟩ := q3 hrw hc
      refine ⟨_, rfl, l, rfl, hl, hrw, fun H2 tp L s2 ntp htp hL ht => ?_⟩
      have s12 := s1.trans s2
      have tab : TabsAt H2 l L := ⟨hL, ht⟩
      rcases q3 with ⟨k, rfl, hk, q⟩ | ⟨hbad, q⟩
      · refine ⟨_, rfl, _, _, _, _, true, rfl, .ty "int", .base (.int _), kit_ty (by decide +kernel), _, rfl, iteF ?_⟩
        refine ⟨_, rfl, _, _, _, _, false, rfl, .ty "bool", .base (.int _), kit_ty (by decide +kernel), _, rfl, iteF ?_⟩
        obtain ⟨a, ks, h1, h2, h3⟩ := tab.get (Nat.zero_le _)
        refine ⟨_, rfl, _, _, rfl, rfl, _, rfl, iteD (show (0 : Int) ≤ (k : Int) by omega) ?_⟩
        refine ⟨_, rfl, tp, _, 0, .ref a, rfl, rfl, SqL.of htp, atI_nat (j := 0) h1, a, _, 0, _, rfl, rfl, SqL.of h2, atI_nat (j := 0) (tab_zero h3), _, _, rfl, rfl, _, rfl, iteNS (show (k : Int) < ((cnt l 0 : Nat) : Int) by omega) ?_⟩
        walk_at "nxt"
        refine sq_set (.int (k : Int)) (fun Q q => ⟨_, rfl, q⟩) ?_
        refine sq_set (.int 0) (fun Q q => q) ?_
        refine ⟨Nat.zero_le _, fun o no => ?_⟩
        have ho0 : H o = none := s12.free no
        have nto : tp ≠ o := ne_of_none htp no
        refine ⟨_, rfl, _, rfl, for_enS (l := l) (fun p σ H' => ∃ x6 x7 x8 d kk g, σ = [some (S l), some (.int (k : Int)), some (.ref tp), some (.int ((kk : Nat) : Int)), some (.int ((d : Nat) : Int)), some (.ref o), x6, x7, x8] ∧ Same H2 H' ∧ H' o = some (.lst (g.map ch)) ∧ g.length = p.length ∧ p.length ≤ l.length ∧ d ≤ p.length ∧
            toldW l 0 k = g ++ toldW (l.drop p.length) d kk ∧ kk < cnt (l.drop p.length) d) ⟨_, _, _, 0, k, [], rfl, Same.new no, upd_same, rfl, Nat.zero_le _, Nat.zero_le _, rfl, hk⟩ ?_ ?_⟩
        · rintro p c r σ H3 H4 e ⟨x6, x7, x8, d, kk, g, rfl, sm, h5, hg, hp, hd, htl, hkk⟩ s34
          have sm4 := sm.trans s34
          have h5' := s34 _ _ h5
          have htp4 := sm4 _ _ htp
          have tab4 := tab.keep sm4
          have hp1 : p.length + 1 ≤ l.length := by rw [e]; simp
          have hdr : l.drop p.length = c :: r := by rw [e, List.drop_left]
          have hdr1 : l.drop (p.length + 1) = r := by
            rw [← List.drop_drop, hdr]; rfl
          have hrl : r.length = l.length - (p.length + 1) := by rw [← hdr1, List.length_drop]
          have hcc : c = 40 ∨ c = 41 ∨ c = 63 := hrw c (by rw [e]; simp)
          rw [hdr] at htl hkk
          have hcan : can (c :: r) d = true := (cnt_pos ..).mp (by omega)
          have hdl := can_le _ _ hcan
          simp only [List.length_cons] at hdl
          have st := told_step hcc hkk
          have htl : toldW l 0 k = g ++ (tsign c r d kk :: toldW r (if tsign c r d kk = 40 then d + 1 else d - 1) (tleft c r d kk)) := htl
          refine ⟨fun σ' H' => ∃ x8, σ' = [some (S l), some (.int (k : Int)), some (.ref tp), some (.int ((tleft c r d kk : Nat) : Int)), some (.int (d : Int)), some (.ref o), some (.int p.length), some (ch (tsign c r d kk)), x8] ∧ H' = H4, ?_, ?_⟩
          · refine ⟨_, rfl, rfl, _, rfl, ?_⟩
            by_cases h63 : c = 63
            · subst h63
              obtain ⟨a', ks', g1, g2, g3⟩ := tab4.get hp1
              rw [hdr1] at g3
              obtain ⟨u1, u2⟩ := g3.up (d := d) (by omega) (by omega)
              refine iteD ((eq_qu 63).mpr rfl) ?_
              refine sq_set (.int ((cnt r (d + 1) : Nat) : Int)) (fun Q q => ?_) ?_
              · exact ⟨_, rfl, _, rfl, _, _, rfl, rfl, tp, _, _, .ref a', rfl, rfl, SqL.of htp4, atI_nat (j := p.length + 1) g1, _, rfl, _, _, rfl, rfl, a', _, _, _, rfl, rfl, SqL.of g2, atI_nat (j := d + 1) (by rw [List.getElem?_map, u2]; rfl), q⟩
              refine sq_set (ch 40) (fun Q q => by
                have q : Q (.str (St_ [40])) H4 := q
                rw [← lit_op] at q; exact q) ?_
              refine ⟨_, rfl, _, rfl, _, _, rfl, rfl, _, rfl, ?_⟩
              by_cases hlt : kk < cnt r (d + 1)
              · have e1 : tsign 63 r d kk = 40 := by unfold tsign; rw [if_pos rfl, if_pos hlt]
                have e2 : tleft 63 r d kk = kk := by unfold tleft; rw [if_neg (fun h => h.2 hlt)]
                refine iteDn (show ¬ ((cnt r (d + 1) : Nat) : Int) ≤ (kk : Int) by omega) ⟨some (.int ((cnt r (d + 1) : Nat) : Int)), ?_, rfl⟩
                rw [e1, e2]; rfl
              · have e1 : tsign 63 r d kk = 41 := by unfold tsign; rw [if_pos rfl, if_neg hlt]
                have e2 : tleft 63 r d kk = kk - cnt r (d + 1) := by unfold tleft; rw [if_pos ⟨rfl, hlt⟩]
                refine iteD (show ((cnt r (d + 1) : Nat) : Int) ≤ (kk : Int) by omega) ?_
                refine sq_set (.int ((kk - cnt r (d + 1) : Nat) : Int)) (fun Q q => ?_) ?_
                · rw [show ((kk - cnt r (d + 1) : Nat) : Int) = (kk : Int) - ((cnt r (d + 1) : Nat) : Int) by omega] at q
                  exact ⟨_, rfl, _, rfl, _, _, rfl, rfl, q⟩
                refine s_set (ch 41) (fun Q q => by
                  have q : Q (.str (St_ [41])) H4 := q
                  rw [← lit_cl] at q; exact q) ⟨some (.int ((cnt r (d + 1) : Nat) : Int)), ?_, rfl⟩
                rw [e1, e2]; rfl
            · have e1 : tsign c r d kk = c := by unfold tsign; rw [if_neg h63]
              have e2 : tleft c r d kk = kk := by unfold tleft; rw [if_neg (fun h => h63 h.1)]
              refine iteDn (fun e => h63 ((eq_qu c).mp e)) ⟨x8, ?_, rfl⟩
              rw [e1, e2]; rfl
          · rintro σ' H' ⟨x8', rfl, rfl⟩
            generalize tsign c r d kk = x at *
            generalize tleft c r d kk = k2 at *
            refine sq_set (.int ((if x = 40 then d + 1 else d - 1 : Nat) : Int)) (fun Q q => ?_) ?_
            · refine ⟨_, rfl, rfl, _, rfl, ?_⟩
              by_cases h40 : x = 40
              · rw [if_pos h40] at q
                exact iteD ((eq_op x).mpr h40) ⟨_, rfl, _, _, rfl, rfl, q⟩
              · rw [if_neg h40] at q
                have hd0 : 0 < d := st.elim (fun h => absurd h.1 h40) (fun h => h.2.2.1)
                have q : Q (.int ((d - 1 : Nat) : Int)) H' := q
                rw [show ((d - 1 : Nat) : Int) = (d : Int) - 1 by omega] at q
                exact iteDn (fun e => h40 ((eq_op x).mp e)) ⟨_, rfl, _, _, rfl, rfl, q⟩
            · refine ⟨_, rfl, .inl ⟨rfl, _, SqL.of h5'⟩, _, rfl, _, _, _, rfl, rfl, h5', sz5l (by walk_at "len"), _, _, _, (if x = 40 then d + 1 else d - 1), k2, g ++ [x], rfl, sm4.mut no, ?_, by walk_at "len", by rw [List.length_append]; exact hp1, ?_, ?_, ?_⟩
              · rw [upd_same, List.map_append]; rfl
              · rw [List.length_append, List.length_singleton]; split <;> omega
              · rw [List.length_append, List.length_singleton, hdr1, List.append_assoc]
                exact htl
              · rw [List.length_append, List.length_singleton, hdr1]
                rcases st with h | h
                · rw [if_pos h.1]; exact h.2.2
                · rw [if_neg (by rw [h.1]; decide)]; exact h.2.2.2
        · rintro σ H3 ⟨x6, x7, x8, d, kk, g, rfl, sm, h5, hg, hp, hd, htl, hkk⟩
          rw [List.drop_length] at htl
          have htl : toldW l 0 k = g := by rw [htl]; exact List.append_nil _
          have := q _ (s12.trans sm)
          rw [htl] at this
          exact ⟨⟨_, rfl⟩, _, rfl, join_rd (SqL.of h5) (by omega) this⟩
      · have fin : ∀ H', Same H H' → E (.ref T.c_BadNumber) none H' := q
        rcases hbad with hn | ⟨b, rfl⟩ | ⟨z, rfl, hz⟩
        · obtain ⟨t, ht1, ht2⟩ := hn _ s12
          exact ⟨_, rfl, _, _, _, _, false, rfl, .ty "int", ht1, ht2, _, rfl, iteT (fin _ s12)⟩
        · refine ⟨_, rfl, _, _, _, _, true, rfl, .ty "int", .base (.bl _), kit_ty (by decide +kernel), _, rfl, iteF ?_⟩
          exact ⟨_, rfl, _, _, _, _, true, rfl, .ty "bool", .base (.bl _), kit_ty (by decide +kernel), _, rfl, iteT (fin _ s12)⟩
        · refine ⟨_, rfl, _, _, _, _, true, rfl, .ty "int", .base (.int _), kit_ty (by decide +kernel), _, rfl, iteF ?_⟩
          refine ⟨_, rfl, _, _, _, _, false, rfl, .ty "bool", .base (.int _), kit_ty (by decide +kernel), _, rfl, iteF ?_⟩
          obtain ⟨a, ks, h1, h2, h3⟩ := tab.get (Nat.zero_le _)
          refine ⟨_, rfl, _, _, rfl, rfl, _, rfl, ?_⟩
          by_cases h0 : 0 ≤ z
          · refine iteD h0 ⟨_, rfl, tp, _, 0, .ref a, rfl, rfl, SqL.of htp, atI_nat (j := 0) h1, a, _, 0, _, rfl, rfl, SqL.of h2, atI_nat (j := 0) (tab_zero h3), _, _, rfl, rfl, _, rfl, iteNT (fun h => hz ⟨h0, h⟩) (fin _ s12)⟩
          · exact iteDn h0 ⟨_, rfl, iteT (fin _ s12)⟩
    · exact ⟨_, rfl, v, rfl, .inr ⟨hn, q⟩⟩
end
end HT

set_option Elab.async false
set_option linter.all false
set_option maxRecDepth 100000
set_option maxHeartbeats 4000000
namespace HT
open PySem PySem.Spec PyProof.Rows L2 BR
local macro_rules | `(tactic| walk_at "sq") => `(tactic| first | exact SqL.of (by assumption) | exact SqL.of upd_same | exact SqT.of (by assumption) | exact SqT.of upd_same | assumption | exact Same.seq (by assumption) (by assumption) | exact Same.seq (Same.trans (by assumption) (by assumption)) (by assumption))
local macro_rules | `(tactic| walk_at "len") => `(tactic| (simp only [List.length_append, List.length_map, List.length_cons, List.length_nil, List.length_set, List.length_replicate, List.length_take, List.length_drop, List.length_reverse, List.length_range, dpi_len, dps_len, len_S]; omega))
local macro_rules | `(tactic| walk_at "g1") => `(tactic| first
  | refine ⟨_, rfl, ?_⟩
  | refine ⟨rfl, ?_⟩
  | refine ⟨_, _, rfl, rfl, @id.{0} _ (by first | decide | omega | exact ⟨by decide, by decide⟩ | exact .inr ⟨by decide, by decide⟩ | (show (0 : Int) < _; decide)), ?_⟩
  | refine ⟨_, _, rfl, rfl, ?_⟩
  | refine ⟨_, _, _, _, rfl, rfl, (by walk_at "sq"), (by first | exact atI_last _ _ | (with_reducible exact atI_nat (by assumption))), ?_⟩
  | refine ⟨.inl ⟨rfl, _, (by walk_at "sq")⟩, ?_⟩
  | refine ⟨_, _, rfl, (by first | exact .inl (by walk_at "sq") | exact .inr (by walk_at "sq")), ?_⟩
  | refine ⟨_, rfl, (by first | exact sz5 (by walk_at "len") | exact szS (by omega)), ?_⟩
  | refine ⟨_, _, _, rfl, rfl, (by assumption), sz5l (by walk_at "len"), ?_⟩)
local macro_rules | `(tactic| walk_at "go") => `(tactic| repeat walk_at "g1")
local macro_rules | `(tactic| walk_at "nxt") => `(tactic| (show tSeq Ends.nx _ _ _ _; refine nx_in ?_))

section
variable {P : Program} {w : World} {K : PySem.W.Frag} {mg : Str → Option Value} {base : Heap}
def spNumberOf (T : Txt K mg) : Sp := fun vs H Q E => ∃ v tv, vs = [v, tv] ∧ Asks T v H E fun l => l.length ≤ 1000 ∧
  ((∃ t, tv = S t ∧ t.length ≤ 80000 ∧ (IsRow t ∨ t.length ≠ l.length) ∧ (isFilling l t = true → IsRow t → ∀ H', Same H H' → Q (.int ((rankW l 0 t : Nat) : Int)) H') ∧ (isFilling l t = false → ∀ H', Same H H' → E (.ref T.c_BadText) none H')) ∨
  ((∀ H', Same H H' → NotS K H' tv) ∧ ∀ H', Same H H' → E (.ref T.c_BadText) none H'))
theorem okNumberOf (T : Txt K mg) : FnOk P w K mg base (L2N.CX P w) 7 T.f_number_of.a T.f_number_of.fd ["row", "text"] (spNumberOf T) := by
  refine T.f_number_of.F.okXN scNumberOf (fun vs H Q E h => ?_) (fun cdv A outer s H vs Q E hr h => ?_)
  · obtain ⟨v, tv, rfl, _⟩ := h
    rfl
  · obtain ⟨v, tv, rfl, h⟩ := h
    refine ⟨_, (pss_cons (ps_expr (pe_call (okAskedFilling T) (hr.mono (by decide)) (by rfl) T.f_asked_filling.g T.f_asked_filling.F.kp T.f_asked_filling.b .nil (L2N.passes_call (L2N.takes_of rfl rfl rfl rfl) (fun _ _ _ _ h => h)) (pa_cons (pv 0) pa_nil)))
      (pss_cons (ps_if (PW.pt (pw_or (pt_not (pt_val (pe_callB call_isi (by rfl) T.n_isinstance (by decide +kernel) (pa_cons (pv 1) (pa_cons (pe_bltn (v := .ty "str") (by rfl) T.n_str (by decide +kernel) rfl) pa_nil))))) (pw_or1 (pt_not (pt_val (pe_call (okIsFilling T) (hr.mono (by decide)) (by rfl) T.f_is_filling.g T.f_is_filling.F.kp T.f_is_filling.b .nil pass0 (pa_cons (pv 0) (pa_cons (pv 1) pa_nil)))))))) (pss_one (L2N.ps_raise rfl (L2N.takes_of rfl rfl rfl rfl) (L2N.pmk_own PySem.F.excBase_ValueError T.x_BadText T.g_BadText T.k_BadText (raises_own T.b_BadText T.t_BadText) (by rfl))))
      pss_nil)
      (PSs.nox (pss_cons (ps_set (i := 2) scNumberOf.nd rfl (by first | exact Or.inl rfl | exact Or.inr rfl) (pe_call (okTableOf T) (hr.mono (by decide)) (by rfl) T.f_table_of.g T.f_table_of.F.kp T.f_table_of.b .nil pass0 (pa_cons (pv 0) pa_nil)))
      (pss_cons (ps_set (i := 3) scNumberOf.nd rfl (by first | exact Or.inl rfl | exact Or.inr rfl) pe_int)
      (pss_cons (ps_set (i := 4) scNumberOf.nd rfl (by first | exact Or.inl rfl | exact Or.inr rfl) pe_int)
      (pss_cons (ps_for PassesOwn.never rfl (pi_enumS (by rfl) T.n_enumerate (pa_cons (pv 1) pa_nil)) (pg_tup rfl (pgs_cons (pg_name (i := 5) scNumberOf.nd rfl (by first | exact Or.inl rfl | exact Or.inr rfl)) (pgs_cons (pg_name (i := 6) scNumberOf.nd rfl (by first | exact Or.inl rfl | exact Or.inr rfl)) pgs_nil)))
      (pss_cut2 (ps_if (PW.pt (pw_and (pt_cmpR op_eq (pe_ix ix_str (pv 0) (pv 5) (fun _ _ => rfl)) pe_str (nomark _)) (pw_and1 (pt_cmpR op_eq (pv 6) pe_str (nomark _))))) (pss_one (ps_set (i := 3) scNumberOf.nd rfl (by first | exact Or.inl rfl | exact Or.inr rfl) (pe_op op_add (pv 3) (pe_ix ix_list (pe_ix ix_list (pv 2) (pe_op op_add (pv 5) pe_int) (fun _ _ => rfl)) (pe_op op_add (pv 4) pe_int) (fun _ _ => rfl)))))
      pss_nil)
      (pss_one (ps_set (i := 4) scNumberOf.nd rfl (by first | exact Or.inl rfl | exact Or.inr rfl) (pe_ifExp (pt_cmpR op_eq (pv 6) pe_str (nomark _)) (pe_op op_add (pv 4) pe_int) (pe_op op_sub (pv 4) pe_int))))))
      (pss_one (ps_ret (pv 3)))))))))), ?_⟩
    rcases h with ⟨l, rfl, hl8, q1, q2, q3⟩ | ⟨hn, q⟩
    · refine ⟨_, rfl, S l, rfl, .inl ⟨l, rfl, hl8, q1, q2, fun hrw hc H1 s1 => ?_⟩⟩
      obtain ⟨hl, q3⟩ := q3 hrw hc
      rcases q3 with ⟨t, rfl, ht8, htr, qa, qb⟩ | ⟨hnot, q⟩
      · refine ⟨_, rfl, _, _, _, _, true, rfl, .ty "str", .base (.str _), kit_ty (by decide +kernel), _, rfl, iteF ?_⟩
        refine ⟨_, rfl, _, rfl, l, t, rfl, by omega, by omega, htr, fun H2 s2 => ⟨_, rfl, ?_⟩⟩
        have s12 := s1.trans s2
        cases hf : isFilling l t with
        | false => exact iteT (qb hf _ s12)
        | true =>
          refine iteF ?_
          have hflen : t.length = l.length := by
            unfold isFilling at hf
            rw [Bool.and_eq_true, decide_eq_true_eq] at hf
            exact hf.1
          have htrow : IsRow t := htr.resolve_right fun h => h hflen
          have q := qa hf htrow
          have hfil := (Fil_filling hrw).mpr ⟨hf, htrow⟩
          walk_at "nxt"
          refine ⟨_, rfl, l, rfl, hl, hrw, fun H3 tp L s3 ntp htp hL ht => ?_⟩
          have s13 := s12.trans s3
          have tab : TabsAt H3 l L := ⟨hL, ht⟩
          walk_at "nxt"
          refine sq_set (.int 0) (fun Q q => q) ?_
          refine sq_set (.int 0) (fun Q q => q) ?_
          refine ⟨_, rfl, _, rfl, for_enS (l := t) (fun p σ H' => ∃ x5 x6 d f, σ = [some (S l), some (S t), some (.ref tp), some (.int ((f : Nat) : Int)), some (.int ((d : Nat) : Int)), x5, x6] ∧ Same H3 H' ∧ p.length ≤ l.length ∧ d ≤ p.length ∧
              rankW l 0 t = f + rankW (l.drop p.length) d (t.drop p.length) ∧ Fil (l.drop p.length) d (t.drop p.length)) ⟨_, _, 0, 0, rfl, Same.refl _, Nat.zero_le _, Nat.zero_le _, (Nat.zero_add _).symm, hfil⟩ ?_ ?_⟩
          · rintro p x r σ H4 H5 e ⟨x5, x6, d, f, rfl, sm, hp, hd, hrk, hfl⟩ s45
            have sm5 := sm.trans s45
            have hp1 : p.length + 1 ≤ l.length := by rw [← hflen, e]; simp
            have htd : t.drop p.length = x :: r := by rw [e, List.drop_left]
            have htd1 : t.drop (p.length + 1) = r := by
              rw [← List.drop_drop, htd]; rfl
            have hcg : l[p.length]? = some l[p.length] := List.getElem?_eq_getElem (by omega)
            obtain ⟨c, hcd⟩ : ∃ c, c = l[p.length] := ⟨_, rfl⟩
            rw [← hcd] at hcg
            have hld : l.drop p.length = c :: l.drop (p.length + 1) := by rw [List.drop_eq_getElem_cons (by omega), ← hcd]
            obtain ⟨s, hs⟩ : ∃ s, s = l.drop (p.length + 1) := ⟨_, rfl⟩
            have hsl : s.length = l.length - (p.length + 1) := by rw [hs, List.length_drop]
            rw [← hs] at hld
            rw [hld, htd] at hrk hfl
            have hcan : can (c :: s) d = true := (can_fil _ _).mpr ⟨_, hfl⟩
            have hdl := can_le _ _ hcan
            simp only [List.length_cons] at hdl
            obtain ⟨x', t', ee, hst⟩ := hfl
            obtain ⟨rfl, rfl⟩ : x = x' ∧ r = t' := by
              have := List.cons.inj ee
              exact this
            have hrk : rankW l 0 t = f + ((if c = 63 ∧ x = 41 then cnt s (d + 1) else 0) + rankW s (if x = 40 then d + 1 else d - 1) r) := hrk
            have htp5 := sm5 _ _ htp
            have tab5 := tab.keep sm5
            obtain ⟨A0, hA0⟩ : ∃ A0, A0 = if c = 63 ∧ x = 41 then cnt s (d + 1) else 0 := ⟨_, rfl⟩
            rw [← hA0] at hrk
            refine ⟨fun σ' H' => σ' = [some (S l), some (S t), some (.ref tp), some (.int ((f + A0 : Nat) : Int)), some (.int (d : Int)), some (.int p.length), some (ch x)] ∧ H' = H5, ?_, ?_⟩
            · refine ⟨_, rfl, _, rfl, St_ l, _, c, rfl, rfl, szS (by omega), atI_nat hcg, rfl, _, rfl, ?_⟩
              by_cases h63 : c = 63
              · refine iteD ((eq_qu c).mpr h63) ⟨_, rfl, rfl, _, rfl, ?_⟩
                by_cases h41 : x = 41
                · rw [if_pos ⟨h63, h41⟩] at hA0
                  obtain ⟨a', ks', g1, g2, g3⟩ := tab5.get hp1
                  rw [← hs] at g3
                  obtain ⟨u1, u2⟩ := g3.up (d := d) (by omega) (by omega)
                  refine iteD ((eq_cl x).mpr h41) ⟨_, rfl, _, rfl, _, rfl, _, _, rfl, rfl, tp, _, _, .ref a', rfl, rfl, SqL.of htp5, atI_nat (j := p.length + 1) g1, _, rfl, _, _, rfl, rfl, a', _, _, V.int ((cnt s (d + 1) : Nat) : Int), rfl, rfl, SqL.of g2, atI_nat (j := d + 1) (by rw [List.getElem?_map, u2]; rfl), _, _, rfl, rfl, ?_, rfl⟩
                  rw [hA0, Int.natCast_add]; rfl
                · rw [if_neg (fun h => h41 h.2)] at hA0
                  refine iteDn (fun e => h41 ((eq_cl x).mp e)) ⟨?_, rfl⟩
                  rw [hA0]; rfl
              · rw [if_neg (fun h => h63 h.1)] at hA0
                refine iteDn (fun e => h63 ((eq_qu c).mp e)) ⟨?_, rfl⟩
                rw [hA0]; rfl
            · rintro σ' H' ⟨rfl, rfl⟩
              refine s_set (.int ((if x = 40 then d + 1 else d - 1 : Nat) : Int)) (fun Q q => ?_) ?_
              · refine ⟨_, rfl, rfl, _, rfl, ?_⟩
                by_cases h40 : x = 40
                · rw [if_pos h40] at q
                  exact iteD ((eq_op x).mpr h40) ⟨_, rfl, _, _, rfl, rfl, q⟩
                · rw [if_neg h40] at q
                  have hd0 : 0 < d := hst.elim (fun h => absurd h.1 h40) (fun h => h.2.2.1)
                  have q : Q (.int ((d - 1 : Nat) : Int)) H' := q
                  rw [show ((d - 1 : Nat) : Int) = (d : Int) - 1 by omega] at q
                  exact iteDn (fun e => h40 ((eq_op x).mp e)) ⟨_, rfl, _, _, rfl, rfl, q⟩
              · refine ⟨_, _, (if x = 40 then d + 1 else d - 1), f + A0, rfl, sm5, by rw [List.length_append]; exact hp1, ?_, ?_, ?_⟩
                · rw [List.length_append, List.length_singleton]; split <;> omega
                · rw [List.length_append, List.length_singleton, htd1, ← hs]; omega
                · rw [List.length_append, List.length_singleton, htd1, ← hs]
                  rcases hst with h | h
                  · rw [if_pos h.1]; exact h.2.2
                  · rw [if_neg (by rw [h.1]; decide)]; exact h.2.2.2
          · rintro σ H4 ⟨x5, x6, d, f, rfl, sm, hp, hd, hrk, hfl⟩
            have e0 : t.drop t.length = [] := List.drop_length ..
            have e1 : l.drop t.length = [] := by rw [hflen]; exact List.drop_length ..
            rw [e0, e1] at hrk
            have hrk : rankW l 0 t = f := hrk
            have := q _ (s13.trans sm)
            rw [hrk] at this
            exact ⟨_, rfl, this⟩
      · obtain ⟨ty, h1, h2⟩ := hnot _ s1
        exact ⟨_, rfl, _, _, _, _, false, rfl, .ty "str", h1, h2, _, rfl, iteT (q _ s1)⟩
    · exact ⟨_, rfl, v, rfl, .inr ⟨hn, q⟩⟩
end
end HT

set_option Elab.async false
set_option linter.all false
set_option maxRecDepth 100000
set_option maxHeartbeats 4000000
/-! min of a list of pairs, min with default=, the removing of a pair. -/
namespace L2
open PySem PySem.Spec PyProof.Rows
/-- where pairs stand -/
abbrev Pr := Addr × Int × Int
def PrsAt (H : Hp) (L : List Pr) : Prop := ∀ z ∈ L, H z.1 = some (.tup [.int z.2.1, .int z.2.2])
def prV (L : List Pr) : List V := L.map fun z => V.ref z.1
def pD (z : Int × Int) : PyData := .tuple [.int z.1, .int z.2]
def prLt (a b : Int × Int) : Prop := a.1 < b.1 ∨ a.1 = b.1 ∧ a.2 < b.2
theorem pD_toD (z : Int × Int) : PySem.W.Datum.toD z = pD z := rfl
theorem prLt_eq (a b : Int × Int) : PySem.W.DatumOrd.lt a b = true ↔ prLt a b := by
  show (if a.1 = b.1 then decide (a.2 < b.2) else decide (a.1 < b.1)) = true ↔ _
  unfold prLt
  by_cases h : a.1 = b.1
  · rw [if_pos h, decide_eq_true_eq]
    constructor
    · exact fun q => .inr ⟨h, q⟩
    · rintro (q | q)
      · omega
      · exact q.2
  · rw [if_neg h, decide_eq_true_eq]
    constructor
    · exact fun q => .inl q
    · rintro (q | q)
      · exact q
      · exact absurd q.1 h
theorem minOf_pr (x : Int × Int) : ∀ xs : List (Int × Int), PySem.W.minOf x xs ∈ x :: xs ∧ ∀ y ∈ x :: xs, ¬ prLt y (PySem.W.minOf x xs) := by
  intro xs
  unfold PySem.W.minOf
  induction xs generalizing x with
  | nil =>
    refine ⟨List.mem_cons_self, fun y hy => ?_⟩
    rw [List.mem_singleton.mp hy]
    unfold prLt
    show ¬ (x.1 < x.1 ∨ x.1 = x.1 ∧ x.2 < x.2)
    omega
  | cons y ys ih =>
    rw [List.foldl_cons]
    by_cases h : PySem.W.DatumOrd.lt y x = true
    · rw [if_pos h]
      obtain ⟨h1, h2⟩ := ih y
      refine ⟨List.mem_cons_of_mem _ h1, fun z hz => ?_⟩
      rcases List.mem_cons.mp hz with rfl | hz
      · have q := h2 y List.mem_cons_self
        have q2 := (prLt_eq _ _).mp h
        unfold prLt at *
        omega
      · exact h2 z hz
    · rw [if_neg h]
      obtain ⟨h1, h2⟩ := ih x
      refine ⟨?_, fun z hz => ?_⟩
      · rcases List.mem_cons.mp h1 with e | e
        · rw [e]; exact List.mem_cons_self
        · exact List.mem_cons_of_mem _ (List.mem_cons_of_mem _ e)
      · rcases List.mem_cons.mp hz with rfl | hz
        · exact h2 _ List.mem_cons_self
        · rcases List.mem_cons.mp hz with rfl | hz
          · have q := h2 x List.mem_cons_self
            have q2 : ¬ prLt z x := fun k => h ((prLt_eq _ _).mpr k)
            unfold prLt at *
            omega
          · exact h2 z (List.mem_cons_of_mem _ hz)
theorem er_map {α β : Type} (f : α → β) : ∀ (l : List α) (j : Nat), (l.eraseIdx j).map f = (l.map f).eraseIdx j
  | [], _ => rfl
  | _ :: _, 0 => rfl
  | a :: l, j + 1 => congrArg (f a :: ·) (er_map f l j)
section
variable {X : Cx}
theorem prs_dp {H : Hp} : ∀ {L : List Pr}, PrsAt H L → DpAll X.K H (prV L) (L.map fun z => pD z.2)
  | [], _ => .nil
  | z :: L, h => .cons (.tup (SqT.of (h z List.mem_cons_self)) (.cons (.int _) (.cons (.int _) .nil))) (prs_dp fun y hy => h y (List.mem_cons_of_mem _ hy))
theorem prs_depth : ∀ L : List Pr, PyData.depthAll (L.map fun z => pD z.2) ≤ 1
  | [] => Nat.zero_le _
  | z :: L => by
    rw [List.map_cons]
    show max (PyData.depth (pD z.2)) _ ≤ 1
    have h := prs_depth L
    have h2 : PyData.depth (pD z.2) = 1 := by simp [pD, PyData.depth, PyData.depthAll]
    omega
theorem prs_plain : ∀ L : List Pr, PyData.plainAll (L.map fun z => pD z.2) = true
  | [] => by simp [PyData.plainAll]
  | z :: L => by
    rw [List.map_cons, PyData.plainAll, prs_plain L]
    simp [pD, PyData.plain, PyData.plainAll]
/-- min(l), l a list of pairs -/
def rMinP (K : PySem.W.Frag) : List V → Hp → VK → Prop := fun vs H Q => ∃ (a : Addr) (L : List Pr), vs = [V.ref a] ∧ SqL K H a (prV L) ∧ PrsAt H L ∧ L ≠ [] ∧ ∀ z ∈ L, (∀ y ∈ L, ¬ prLt y.2 z.2) → Q (.ref z.1) H
theorem cr_minP (hc : X.calm = true) (hu : X.A.units + 64 < cLine) : CallR X (.builtin "min") (rMinP X.K) := by
  intro pins s σ H vs us Q I r h
  obtain ⟨a, L, rfl, hs, hp, hne, q⟩ := h
  obtain ⟨its, rv, hl, hz⟩ := I.list hs
  rw [Vals.ref1 r]
  obtain ⟨as, rs⟩ := Dp.readsAll I _ _ its (prs_dp hp) rv
  obtain ⟨x, xs, e⟩ : ∃ x xs, L = x :: xs := by
    cases L with
    | nil => exact absurd rfl hne
    | cons x xs => exact ⟨x, xs, rfl⟩
  have eD : (L.map fun z => pD z.2) = ((x :: xs).map (·.2)).map PySem.W.Datum.toD := by
    rw [e, List.map_map]
    rfl
  have rs2 : PySem.W.HoldAll s.heap its.toArray.toList (x.2 :: xs.map (·.2)) := ⟨as, by
    rw [eD] at rs
    exact rs⟩
  refine PySem.W.min_list_datum (I.ok.hd hc) hl.isList rs2 (by
    have : PySem.W.Datum.depth (Int × Int) ≤ 3 := by decide
    omega) fun i v h' tk hi hv hk => ?_
  have hi' : its[i]? = some v := by simpa using hi
  obtain ⟨bs, rd, hlt, _, _⟩ := PySem.W.readsAll_at rs i v hi'
  rw [List.length_map] at hlt
  have eL : L[i]? = some L[i] := List.getElem?_eq_getElem hlt
  have ev : (prV L)[i]? = some (V.ref L[i].1) := by
    unfold prV
    rw [List.getElem?_map, eL]
    rfl
  obtain ⟨u, hu2, ru⟩ := rv.get ev
  rw [hi'] at hu2
  obtain rfl := Option.some.inj hu2
  have em : L[i].2 = PySem.W.minOf x.2 (xs.map (·.2)) := by
    obtain ⟨cs, rm⟩ := hv
    have r1 := PySem.W.reads_keeps hk rd
    have e1 : pD L[i].2 = _ := (Reads.unique (show Reads h' v (pD L[i].2) bs by
      rw [List.getD_eq_getElem?_getD, List.getElem?_map, eL] at r1
      exact r1) _ _ rm).1
    rw [pD_toD] at e1
    unfold pD at e1
    have e2 := PyData.tuple.inj e1
    have e3 : L[i].2.1 = (PySem.W.minOf x.2 (xs.map (·.2))).1 := PyData.int.inj (List.cons.inj e2).1
    have e4 : L[i].2.2 = (PySem.W.minOf x.2 (xs.map (·.2))).2 := PyData.int.inj (List.cons.inj (List.cons.inj e2).2).1
    exact Prod.ext e3 e4
  refine ⟨.ref L[i].1, H, I.kept hk, ru, q _ (List.getElem_mem hlt) fun y hy => ?_⟩
  rw [em]
  refine (minOf_pr x.2 (xs.map (·.2))).2 _ ?_
  rw [← List.map_cons, ← e]
  exact List.mem_map_of_mem hy
/-- l.remove(t), t a pair of l -/
def rRemP : V → List V → Hp → VK → Prop := fun x vs H Q => ∃ (l : Addr) (t : Addr) (L : List Pr) (j : Nat) (z : Int × Int), x = .ref l ∧ vs = [V.ref t] ∧ H l = some (.lst (prV L)) ∧ PrsAt H L ∧ H t = some (.tup [.int z.1, .int z.2]) ∧
  (∃ y, L[j]? = some y ∧ y.2 = z) ∧ (∀ m y, m < j → L[m]? = some y → y.2 ≠ z) ∧ Q .non (upd H l (.lst (prV (L.eraseIdx j))))
theorem pD_eqv (a b : Int × Int) : PyData.eqv (pD a) (pD b) = decide (a = b) := by
  unfold pD
  simp only [PyData.eqv, PyData.eqvAll, Bool.and_true]
  rw [Bool.eq_iff_iff]
  simp only [Bool.and_eq_true, beq_iff_eq, decide_eq_true_eq]
  constructor
  · exact fun h => Prod.ext h.1 h.2
  · rintro rfl
    exact ⟨rfl, rfl⟩
theorem mt_remP (hu : X.A.units + 64 < cLine) : MtM X "list.remove" rRemP := by
  intro pins s σ H x vs v us Q I rx rvs h
  obtain ⟨l, t, L, j, z, rfl, rfl, hH, hp, ht, ⟨y, hy, ey⟩, hno, q⟩ := h
  cases rx
  obtain ⟨u, rfl, ru⟩ := rvs.one
  obtain ⟨zz, its, n, r, hl, e⟩ := I.lstM hH
  obtain ⟨as, rs⟩ := Dp.readsAll I _ _ its (prs_dp hp) r
  obtain ⟨bs, rt⟩ := Dp.reads I (pD z) (.ref t) u (.tup (SqT.of ht) (.cons (.int _) (.cons (.int _) .nil))) ru
  have hpl : SeqAt.dataPlace (L.map fun z => pD z.2) (pD z) = some j := by
    unfold SeqAt.dataPlace
    obtain ⟨hj, ej⟩ := List.getElem?_eq_some_iff.mp hy
    refine List.findIdx?_eq_some_iff_getElem.mpr ⟨by rw [List.length_map]; exact hj, ?_, fun m hm => ?_⟩
    · rw [List.getElem_map, pD_eqv, ej, decide_eq_true ey]
    · have hm2 : m < L.length := by omega
      rw [List.getElem_map, pD_eqv, decide_eq_false (hno m _ hm (List.getElem?_eq_getElem hm2))]
      decide
  have hd : PyData.depth (pD z) = 1 := by simp [pD, PyData.depth, PyData.depthAll]
  refine SeqAt.remove_list_data (vs := its.toArray) ⟨_, e, rfl, n, rfl⟩ rs rt (prs_plain L) (by simp [pD, PyData.plain, PyData.plainAll]) (by omega) hpl (by rw [List.size_toArray]; omega) ?_
  have q2 := I.lset (its' := its.eraseIdx j) (ys := prV (L.eraseIdx j)) (t' := s.toks) (f := fun ys => ys.eraseIdxIfInBounds j) hH e (by rw [List.eraseIdxIfInBounds_toArray]) (by
    have e3 : prV (L.eraseIdx j) = (prV L).eraseIdx j := by unfold prV; exact (er_map _ L j)
    rw [e3]
    exact r.eraseIdx j) (by
    have e4 : (prV (L.eraseIdx j)).length ≤ (prV L).length := by unfold prV; rw [List.length_map, List.length_map]; exact List.length_eraseIdx_le ..
    omega)
  exact ⟨.non, _, q2, rfl, q⟩
/-- min(l, default=d), l a list of ints -/
def rMinDf (K : PySem.W.Frag) : List V → List V → Hp → VK → Prop := fun vs zs H Q => ∃ (a : Addr) (ns : List Int) (d : Int), vs = [V.ref a] ∧ zs = [V.int d] ∧ SqL K H a (ns.map V.int) ∧ (ns = [] → Q (.int d) H) ∧ ∀ m, m ∈ ns → (∀ y, y ∈ ns → m ≤ y) → Q (.int m) H
theorem ints_dp {H : Hp} : ∀ ns : List Int, DpAll X.K H (ns.map V.int) (ns.map PyData.int)
  | [] => .nil
  | n :: ns => .cons (.int _) (ints_dp ns)
theorem foldl_min_int (y : Int) : ∀ ys : List Int, ys.foldl min y ∈ y :: ys ∧ ∀ x ∈ y :: ys, ys.foldl min y ≤ x := by
  intro ys
  induction ys generalizing y with
  | nil => exact ⟨List.mem_cons_self, fun x hx => by rw [List.mem_singleton.mp hx]; exact Int.le_refl _⟩
  | cons k r ih =>
    obtain ⟨h1, h2⟩ := ih (min y k)
    rw [List.foldl_cons]
    have hm := h2 _ List.mem_cons_self
    refine ⟨?_, fun x hx => ?_⟩
    · rcases List.mem_cons.mp h1 with e | e
      · rw [e]
        rcases Int.le_total y k with h | h
        · rw [Int.min_eq_left h]; exact List.mem_cons_self
        · rw [Int.min_eq_right h]; exact List.mem_cons_of_mem _ List.mem_cons_self
      · exact List.mem_cons_of_mem _ (List.mem_cons_of_mem _ e)
    · rcases List.mem_cons.mp hx with rfl | hx
      · omega
      · rcases List.mem_cons.mp hx with rfl | hx
        · omega
        · exact h2 _ (List.mem_cons_of_mem _ hx)
theorem cr_minDf (hc : X.calm = true) (hu : X.A.units + 64 < cLine) : CallRK X (.builtin "min") [Str.ofString "default"] (rMinDf X.K) := by
  intro pins s σ H vs zs us ws Q I r rz h
  obtain ⟨a, ns, d, rfl, rfl, hs, q0, q⟩ := h
  obtain rfl := Vals.ref1 r
  obtain ⟨w1, rfl, t, rfl⟩ := vals1 rz
  obtain ⟨its, rv, hl, hz⟩ := I.list hs
  obtain ⟨as, rs⟩ := Dp.readsAll I _ _ its (ints_dp ns) rv
  have hdp : ∀ ns : List Int, PyData.depthAll (ns.map PyData.int) = 0 := by
    intro ns
    induction ns with
    | nil => rfl
    | cons n ns ih => rw [List.map_cons]; show max 0 _ = 0; rw [ih]; rfl
  refine PySem.W.min_list_default (vs := its.toArray) (I.ok.hd hc) hl.isList rs (PySem.W.alikeAll_datum ns) (by rw [hdp]; omega) (fun en h' tk hk => ?_) fun y ys i v h' tk bs en hi rd hk => ?_
  · exact ⟨.int d, H, I.kept hk, ⟨t, rfl⟩, q0 (List.map_eq_nil_iff.mp en)⟩
  · cases ns with
    | nil => cases en
    | cons n ns =>
      rw [List.map_cons] at en
      injection en with e1 e2
      subst e1
      subst e2
      rw [PySem.W.minD_ints] at rd
      cases rd with
      | int _ t2 =>
        obtain ⟨h1, h2⟩ := foldl_min_int n ns
        exact ⟨.int _, H, I.kept hk, ⟨t2, rfl⟩, q _ h1 h2⟩
end
end L2

set_option Elab.async false
set_option linter.all false
/-! prices, levels: the plain part. -/
namespace BR
/-- for each place how much more it costs to open than to close -/
def mores : List Nat → List Int → List Int
  | [], _ => []
  | c :: r, ds => if c = 63 then ds.getD 0 0 :: mores r (ds.drop 1) else 0 :: mores r ds
theorem mores_len : ∀ (l : List Nat) (ds : List Int), (mores l ds).length = l.length
  | [], _ => rfl
  | c :: r, ds => by
    unfold mores
    split
    · rw [List.length_cons, List.length_cons, mores_len r]
    · rw [List.length_cons, List.length_cons, mores_len r]
theorem mores_snoc : ∀ (p : List Nat) (c : Nat) (ds : List Int), mores (p ++ [c]) ds = mores p ds ++ [if c = 63 then ds.getD (p.count 63) 0 else 0]
  | [], c, ds => by
    by_cases h : c = 63
    · simp [mores, h]
    · simp [mores, h]
  | a :: p, c, ds => by
    rw [List.cons_append]
    by_cases h : a = 63
    · subst h
      rw [mores, if_pos rfl, mores, if_pos rfl, mores_snoc p c, List.cons_append]
      have e : (ds.drop 1).getD (p.count 63) 0 = ds.getD ((63 :: p).count 63) 0 := by
        rw [List.count_cons_self, List.getD_eq_getElem?_getD, List.getD_eq_getElem?_getD, List.getElem?_drop, Nat.add_comm]
      rw [e]
    · rw [mores, if_neg h, mores, if_neg h, mores_snoc p c, List.cons_append, List.count_cons_of_ne h]
end BR

set_option Elab.async false
set_option linter.all false
set_option maxRecDepth 100000
set_option maxHeartbeats 1000000
/-! The cheapest filling: the greedy way, its levels, and that they show it. -/
namespace BR
theorem Dp_zero (t : List Nat) : Dp t 0 = 0 := by unfold Dp; rw [List.take_zero]; rfl
theorem Dp_par (t : List Nat) : ∀ j, j ≤ t.length → (Dp t j + j) % 2 = 0
  | 0, _ => by rw [Dp_zero]; rfl
  | j + 1, h => by
    have ih := Dp_par t j (by omega)
    rw [Dp_succ (List.getElem?_eq_getElem (show j < t.length by omega))]
    unfold dst
    split <;> omega
theorem Dp_le (f s : List Nat) (a : Nat) (x : Int) (h : Dp s a ≤ Dp f a + x) : ∀ k, a ≤ k → k ≤ s.length → k ≤ f.length → (∀ j, a ≤ j → j < k → s[j]? = some 40 → f[j]? = some 40) → Dp s k ≤ Dp f k + x := by
  intro k hk
  induction k with
  | zero =>
    intro _ _ _
    have : a = 0 := by omega
    subst this
    exact h
  | succ k ih =>
    intro h1 h2 hj
    by_cases ha : a = k + 1
    · subst ha; exact h
    · have ih := ih (by omega) (by omega) (by omega) fun j a b c => hj j a (by omega) c
      rw [Dp_succ (List.getElem?_eq_getElem (show k < s.length by omega)), Dp_succ (List.getElem?_eq_getElem (show k < f.length by omega))]
      have hk2 := hj k (by omega) (by omega)
      rw [List.getElem?_eq_getElem (show k < s.length by omega), List.getElem?_eq_getElem (show k < f.length by omega)] at hk2
      unfold dst
      by_cases h40 : s[k] = 40
      · have := Option.some.inj (hk2 (by rw [h40]))
        rw [if_pos h40, if_pos this]; omega
      · rw [if_neg h40]
        split <;> omega
theorem Dp_set {s : List Nat} {b : Nat} (hb : s[b]? = some 41) : ∀ j, j ≤ s.length → Dp (s.set b 40) j = Dp s j + (if b < j then 2 else 0)
  | 0, _ => by rw [Dp_zero, Dp_zero, if_neg (by omega)]; rfl
  | j + 1, h => by
    have ih := Dp_set hb j (by omega)
    have hl : (s.set b 40).length = s.length := List.length_set
    obtain ⟨hb1, hb2⟩ := List.getElem?_eq_some_iff.mp hb
    by_cases e : b = j
    · subst e
      rw [Dp_succ (c := 40) (by rw [List.getElem?_set_self hb1]), Dp_succ hb, ih, if_neg (by omega), if_pos (by omega)]
      unfold dst
      rw [if_pos rfl, if_neg (by decide)]
      omega
    · have hj : s[j]? = some s[j] := List.getElem?_eq_getElem (by omega)
      rw [Dp_succ (c := s[j]) (by rw [List.getElem?_set_ne e]; exact hj), Dp_succ hj, ih]
      unfold dst
      by_cases hbj : b < j
      · rw [if_pos hbj, if_pos (show b < j + 1 by omega)]; split <;> omega
      · rw [if_neg hbj, if_neg (show ¬ b < j + 1 by omega)]; split <;> omega
/-- what holds of the signs when i places are gone through -/
structure Gr (l : List Nat) (ms : List Int) (i : Nat) (s : List Nat) : Prop where
  len : s.length = l.length
  fix : ∀ (j c : Nat), l[j]? = some c → c ≠ 63 → s[j]? = some c
  br : ∀ j : Nat, j < l.length → s[j]? = some 40 ∨ s[j]? = some 41
  rest : ∀ j : Nat, i ≤ j → l[j]? = some 63 → s[j]? = some 41
  nn : ∀ j : Nat, j ≤ i → 0 ≤ Dp s j
  low : ∃ j : Nat, j ≤ i ∧ Dp s j ≤ 1 ∧ ∀ q : Nat, l[q]? = some 63 → s[q]? = some 40 → q < j
  ex : ∀ q p : Nat, l[q]? = some 63 → s[q]? = some 40 → l[p]? = some 63 → s[p]? = some 41 → p < i → (p < q ∨ ∀ j : Nat, q < j → j ≤ p → 2 ≤ Dp s j) → ms.getD q 0 ≤ ms.getD p 0
theorem Gr.start {l : List Nat} (ms : List Int) (h : IsRow l) : Gr l ms 0 (l.map fun c => if c = 40 then 40 else 41) where
  len := List.length_map _
  fix := fun j c hc h63 => by
    rw [List.getElem?_map, hc]
    rcases h c (List.mem_of_getElem? hc) with e | e | e
    · subst e; rfl
    · subst e; rfl
    · exact absurd e h63
  br := fun j hj => by
    rw [List.getElem?_map, List.getElem?_eq_getElem hj]
    show some (if l[j] = 40 then 40 else 41) = some 40 ∨ some (if l[j] = 40 then 40 else 41) = some 41
    by_cases e : l[j] = 40
    · rw [if_pos e]; exact .inl rfl
    · rw [if_neg e]; exact .inr rfl
  rest := fun j _ hj => by rw [List.getElem?_map, hj]; rfl
  nn := fun j hj => by
    have : j = 0 := by omega
    subst this
    rw [Dp_zero]
    exact Int.le_refl _
  low := ⟨0, Nat.le_refl _, by rw [Dp_zero]; decide, fun q hq hs => by
    rw [List.getElem?_map, hq] at hs
    cases hs⟩
  ex := fun q p hq hs => by
    rw [List.getElem?_map, hq] at hs
    cases hs
section
variable {l : List Nat} {ms : List Int} {i : Nat} {s : List Nat}
/-- no more close than are open -/
theorem Gr.keep (g : Gr l ms i s) (hi : i < l.length) (h : 0 ≤ Dp s (i + 1)) : Gr l ms (i + 1) s where
  len := g.len
  fix := g.fix
  br := g.br
  rest := fun j hj => g.rest j (by omega)
  nn := fun j hj => by
    by_cases e : j = i + 1
    · subst e; exact h
    · exact g.nn j (by omega)
  low := by
    obtain ⟨j, h1, h2, h3⟩ := g.low
    exact ⟨j, by omega, h2, h3⟩
  ex := fun q p hq sq hp sp hlt hor => by
    by_cases e : p = i
    · subst e
      obtain ⟨j, h1, h2, h3⟩ := g.low
      have := h3 q hq sq
      rcases hor with hor | hor
      · omega
      · have := hor j (by omega) (by omega); omega
    · exact g.ex q p hq sq hp sp (by omega) hor
/-- one is opened -/
theorem Gr.opens (g : Gr l ms i s) (hi : i < l.length) (h : Dp s (i + 1) < 0) {b : Nat} (hb : b ≤ i) (lb : l[b]? = some 63) (sb : s[b]? = some 41) (hm : ∀ p : Nat, p ≤ i → l[p]? = some 63 → s[p]? = some 41 → ms.getD b 0 ≤ ms.getD p 0) : Gr l ms (i + 1) (s.set b 40) ∧ Dp (s.set b 40) (i + 1) = Dp s (i + 1) + 2 := by
  have hlen := g.len
  have hbl : b < s.length := (List.getElem?_eq_some_iff.mp sb).1
  have hD : ∀ j, j ≤ i + 1 → Dp (s.set b 40) j = Dp s j + (if b < j then 2 else 0) := fun j hj => Dp_set sb j (by omega)
  have hi1 : Dp (s.set b 40) (i + 1) = Dp s (i + 1) + 2 := by rw [hD _ (Nat.le_refl _), if_pos (by omega)]
  have hge : -1 ≤ Dp s (i + 1) := by
    have := g.nn i (Nat.le_refl _)
    rw [Dp_succ (List.getElem?_eq_getElem (show i < s.length by omega))]
    unfold dst
    split <;> omega
  have hget : ∀ j : Nat, j ≠ b → (s.set b 40)[j]? = s[j]? := fun j hj => List.getElem?_set_ne (Ne.symm hj)
  have hgetb : (s.set b 40)[b]? = some 40 := List.getElem?_set_self hbl
  have hop : ∀ q : Nat, (s.set b 40)[q]? = some 40 → q = b ∨ s[q]? = some 40 := fun q hq => by
    by_cases e : q = b
    · exact .inl e
    · rw [hget q e] at hq; exact .inr hq
  have hcl : ∀ p : Nat, (s.set b 40)[p]? = some 41 → p ≠ b ∧ s[p]? = some 41 := fun p hp => by
    by_cases e : p = b
    · subst e; rw [hgetb] at hp; cases hp
    · rw [hget p e] at hp; exact ⟨e, hp⟩
  refine ⟨⟨by rw [List.length_set]; exact hlen, fun j c hc h63 => ?_, fun j hj => ?_, fun j hj hl => ?_, fun j hj => ?_, ⟨i + 1, Nat.le_refl _, by omega, fun q hq sq => ?_⟩, fun q p hq sq hp sp hlt hor => ?_⟩, hi1⟩
  · rw [hget j (fun e => by subst e; rw [lb] at hc; cases hc; exact h63 rfl)]
    exact g.fix j c hc h63
  · by_cases e : j = b
    · subst e; exact .inl hgetb
    · rw [hget j e]; exact g.br j hj
  · rw [hget j (by omega)]
    exact g.rest j (by omega) hl
  · by_cases e : j = i + 1
    · subst e; omega
    · have := g.nn j (by omega)
      rw [hD j hj]
      split <;> omega
  · rcases hop q sq with e | e
    · omega
    · obtain ⟨j, h1, h2, h3⟩ := g.low
      have := h3 q hq e
      omega
  · obtain ⟨pb, sp1⟩ := hcl p sp
    clear sp
    have sp := sp1
    rcases hop q sq with e | sq
    · rw [e]
      exact hm p (by omega) hp sp
    · obtain ⟨j0, h1, h2, h3⟩ := g.low
      have hqj := h3 q hq sq
      rcases hor with hor | hor
      · exact g.ex q p hq sq hp sp (by omega) (.inl hor)
      · by_cases hold : ∀ j : Nat, q < j → j ≤ p → 2 ≤ Dp s j
        · by_cases e : p = i
          · subst e
            have := hold j0 (by omega) (by omega)
            omega
          · exact g.ex q p hq sq hp sp (by omega) (.inr hold)
        · obtain ⟨j, hj⟩ := Classical.not_forall.mp hold
          obtain ⟨hj1, hj⟩ := Classical.not_imp.mp hj
          obtain ⟨hj2, hj⟩ := Classical.not_imp.mp hj
          have hj' := hor j hj1 hj2
          rw [hD j (by omega)] at hj'
          have hbj : b < j := by
            apply Classical.byContradiction
            intro hn
            rw [if_neg hn] at hj'
            omega
          have hbp := hm p (by omega) hp sp
          refine Int.le_trans ?_ hbp
          refine g.ex q b hq sq lb sb (by omega) ?_
          by_cases hbq : b < q
          · exact .inl hbq
          · refine .inr fun k hk1 hk2 => ?_
            have := hor k hk1 (by omega)
            rw [hD k (by omega), if_neg (by omega)] at this
            omega
theorem fits_get {l t : List Nat} (hlen : t.length = l.length) (h : fits l t = true) {j c : Nat} (hc : l[j]? = some c) (h63 : c ≠ 63) : t[j]? = some c := by
  unfold fits at h
  rw [List.all_eq_true] at h
  have hj := (List.getElem?_eq_some_iff.mp hc).1
  have ht : t[j]? = some t[j] := List.getElem?_eq_getElem (by omega)
  have hz : (l.zip t)[j]? = some (c, t[j]) := by rw [List.getElem?_zip_eq_some]; exact ⟨hc, ht⟩
  have := of_decide_eq_true (h _ (List.mem_of_getElem? hz))
  rw [ht]
  rcases this with e | e
  · exact absurd e h63
  · exact congrArg some e.symm
theorem fits_of {l t : List Nat} (h : ∀ (j c x : Nat), l[j]? = some c → t[j]? = some x → c ≠ 63 → x = c) : fits l t = true := by
  unfold fits
  rw [List.all_eq_true]
  rintro ⟨c, x⟩ hm
  obtain ⟨j, hj⟩ := List.getElem?_of_mem hm
  rw [List.getElem?_zip_eq_some] at hj
  refine decide_eq_true ?_
  by_cases h63 : c = 63
  · exact .inl h63
  · exact .inr (h j c x hj.1 hj.2 h63).symm
/-- there is one to be opened -/
theorem Gr.has (g : Gr l ms i s) (hi : i < l.length) (h : Dp s (i + 1) < 0) {f : List Nat} (hf : f.length = l.length) (hfit : fits l f = true) (hrun : run 0 f = some 0) : ∃ b : Nat, b ≤ i ∧ l[b]? = some 63 ∧ s[b]? = some 41 := by
  apply Classical.byContradiction
  intro hn
  have hlen := g.len
  have h0 := Dp_nonneg hrun (i + 1)
  have := Dp_le s f 0 0 (by rw [Dp_zero, Dp_zero]; decide) (i + 1) (Nat.zero_le _) (by omega) (by omega) fun j _ hj hfj => by
    have hjl : j < l.length := by omega
    have hc : l[j]? = some l[j] := List.getElem?_eq_getElem hjl
    by_cases h63 : l[j] = 63
    · rw [h63] at hc
      rcases g.br j hjl with e | e
      · exact e
      · exact absurd ⟨j, by omega, hc, e⟩ hn
    · rw [fits_get hf hfit hc h63] at hfj
      rw [g.fix j _ hc h63]
      exact hfj
  omega
theorem Gr.brs (g : Gr l ms i s) : Br s := fun c hc => by
  obtain ⟨j, hj⟩ := List.getElem?_of_mem hc
  have := (List.getElem?_eq_some_iff.mp hj).1
  rcases g.br j (by have := g.len; omega) with e | e
  · rw [hj] at e; exact .inl (Option.some.inj e)
  · rw [hj] at e; exact .inr (Option.some.inj e)
/-- at the end it is a filling -/
theorem Gr.filling (g : Gr l ms l.length s) {f : List Nat} (hf : f.length = l.length) (hfit : fits l f = true) (hrun : run 0 f = some 0) : isFilling l s = true := by
  have hlen := g.len
  unfold isFilling
  have hfit' : fits l s = true := fits_of fun j c x hc hx h63 => by
    have := g.fix j c hc h63
    rw [hx] at this
    exact Option.some.inj this
  rw [decide_eq_true hlen, hfit', Bool.true_and, Bool.and_true]
  have hnn : ∀ m, m ≤ s.length → 0 ≤ Dp s m := fun m hm => g.nn m (by omega)
  refine isClosed_of g.brs ?_ hnn
  obtain ⟨j, h1, h2, h3⟩ := g.low
  have p1 := Dp_par s j (by omega)
  have p2 := Dp_par f j (by omega)
  have hfj := Dp_nonneg hrun j
  have e := Dp_le f s j 0 (by omega) l.length h1 (by omega) (by omega) fun k hk1 hk2 hs => by
    have hc : l[k]? = some l[k] := List.getElem?_eq_getElem hk2
    by_cases h63 : l[k] = 63
    · rw [h63] at hc
      have := h3 k hc hs
      omega
    · rw [g.fix k _ hc h63] at hs
      rw [fits_get hf hfit hc h63]
      exact hs
  have e2 := Dp_end hrun
  rw [hf] at e2
  have e3 := hnn s.length (Nat.le_refl _)
  rw [hlen] at e3
  have e4 : Dp s l.length = 0 := by omega
  rw [← hlen] at e4
  unfold Dp at e4
  rwa [List.take_length] at e4
end
/-! ### levels -/
/-- the greatest price of an opened one among the last j places -/
def topR (l t : List Nat) (ms : List Int) (lo : Int) : Nat → Int
  | 0 => lo
  | j + 1 => if l[l.length - 1 - j]? = some 63 ∧ t[l.length - 1 - j]? = some 40 then max (topR l t ms lo j) (ms.getD (l.length - 1 - j) 0) else topR l t ms lo j
def lvl (l t : List Nat) (ms : List Int) (lo : Int) : Nat → Int
  | 0 => topR l t ms lo l.length
  | p + 1 => if 1 < Dp t (p + 1) then lvl l t ms lo p else topR l t ms lo (l.length - (p + 1))
section
variable {l t : List Nat} {ms : List Int} {lo : Int}
theorem topR_mono (j : Nat) : topR l t ms lo j ≤ topR l t ms lo (j + 1) := by
  show _ ≤ (if _ then _ else _)
  split
  · exact Int.le_max_left _ _
  · exact Int.le_refl _
theorem topR_up {j k : Nat} (h : j ≤ k) : topR l t ms lo j ≤ topR l t ms lo k := by
  induction k with
  | zero =>
    have : j = 0 := by omega
    subst this
    exact Int.le_refl _
  | succ k ih =>
    by_cases e : j = k + 1
    · subst e; exact Int.le_refl _
    · exact Int.le_trans (ih (by omega)) (topR_mono k)
theorem topR_one {p : Nat} (hp : p < l.length) (h1 : l[p]? = some 63) (h2 : t[p]? = some 40) : ms.getD p 0 ≤ topR l t ms lo (l.length - p) := by
  have e : l.length - p = (l.length - 1 - p) + 1 := by omega
  have e2 : l.length - 1 - (l.length - 1 - p) = p := by omega
  rw [e]
  show _ ≤ (if _ then _ else _)
  rw [e2, if_pos ⟨h1, h2⟩]
  omega
theorem topR_is : ∀ j, j ≤ l.length → topR l t ms lo j = lo ∨ ∃ q : Nat, l.length - j ≤ q ∧ q < l.length ∧ l[q]? = some 63 ∧ t[q]? = some 40 ∧ topR l t ms lo j = ms.getD q 0
  | 0, _ => .inl rfl
  | j + 1, h => by
    have ih := topR_is j (by omega)
    by_cases hc : l[l.length - 1 - j]? = some 63 ∧ t[l.length - 1 - j]? = some 40
    · have e : topR l t ms lo (j + 1) = max (topR l t ms lo j) (ms.getD (l.length - 1 - j) 0) := by
        show (if _ then _ else _) = _
        rw [if_pos hc]
      by_cases hm : topR l t ms lo j ≤ ms.getD (l.length - 1 - j) 0
      · exact .inr ⟨l.length - 1 - j, by omega, by omega, hc.1, hc.2, by rw [e]; omega⟩
      · rw [e, Int.max_eq_left (by omega)]
        rcases ih with ih | ⟨q, h1, h2, h3, h4, h5⟩
        · exact .inl ih
        · exact .inr ⟨q, by omega, h2, h3, h4, h5⟩
    · have e : topR l t ms lo (j + 1) = topR l t ms lo j := by
        show (if _ then _ else _) = _
        rw [if_neg hc]
      rw [e]
      rcases ih with ih | ⟨q, h1, h2, h3, h4, h5⟩
      · exact .inl ih
      · exact .inr ⟨q, by omega, h2, h3, h4, h5⟩
theorem lvl_ge : ∀ p, p ≤ l.length → topR l t ms lo (l.length - p) ≤ lvl l t ms lo p
  | 0, _ => Int.le_refl _
  | p + 1, h => by
    have ih := lvl_ge p (by omega)
    unfold lvl
    split
    · exact Int.le_trans (topR_up (by omega)) ih
    · exact Int.le_refl _
theorem lvl_is : ∀ p, ∃ s, s ≤ p ∧ lvl l t ms lo p = topR l t ms lo (l.length - s) ∧ ∀ j, s < j → j ≤ p → 1 < Dp t j
  | 0 => ⟨0, Nat.le_refl _, rfl, fun j h1 h2 => by omega⟩
  | p + 1 => by
    obtain ⟨s, h1, h2, h3⟩ := lvl_is p
    by_cases h : 1 < Dp t (p + 1)
    · refine ⟨s, by omega, by rw [← h2]; show (if _ then _ else _) = _; rw [if_pos h], fun j hj1 hj2 => ?_⟩
      by_cases e : j = p + 1
      · subst e; exact h
      · exact h3 j hj1 (by omega)
    · exact ⟨p + 1, Nat.le_refl _, by show (if _ then _ else _) = _; rw [if_neg h], fun j hj1 hj2 => by omega⟩
end
/-! ### what is asked of levels, place by place -/
/-- something is wrong at place i -/
def bad (l t : List Nat) (ms lv : List Int) (i : Nat) : Prop :=
  (0 < i ∧ lv.getD (i - 1) 0 < lv.getD i 0) ∨ (0 < i ∧ lv.getD i 0 < lv.getD (i - 1) 0 ∧ 1 < Dp t i) ∨
  (l.getD i 0 = 63 ∧ (t.getD i 0 = 40 ∧ lv.getD i 0 < ms.getD i 0 ∨ t.getD i 0 = 41 ∧ ms.getD i 0 < lv.getD i 0))
instance (l t : List Nat) (ms lv : List Int) (i : Nat) : Decidable (bad l t ms lv i) := by unfold bad; exact inferInstance
def lvOk (l t : List Nat) (ms lv : List Int) : Bool := decide (lv.length = l.length) && (isFilling l t && (List.range l.length).all fun i => decide (¬ bad l t ms lv i))
theorem lvOk_iff (l t : List Nat) (ms lv : List Int) : lvOk l t ms lv = true ↔ lv.length = l.length ∧ isFilling l t = true ∧ ∀ i, i < l.length → ¬ bad l t ms lv i := by
  unfold lvOk
  rw [Bool.and_eq_true, Bool.and_eq_true, decide_eq_true_eq, List.all_eq_true]
  simp only [List.mem_range, decide_eq_true_eq]
theorem lvOk_no {l t : List Nat} {ms lv : List Int} {i : Nat} (hi : i < l.length) (h : bad l t ms lv i) : lvOk l t ms lv = false :=
  Bool.eq_false_iff.mpr fun e => ((lvOk_iff l t ms lv).mp e).2.2 i hi h
/-- the greedy way's levels show it -/
theorem Gr.shown {l s : List Nat} {ms lv : List Int} {lo : Int} (g : Gr l ms l.length s) (hfil : isFilling l s = true) (hlo : ∀ p, p < l.length → lo ≤ ms.getD p 0) (hlen : lv.length = l.length)
    (hlv : ∀ p, p < l.length → lv[p]? = some (lvl l s ms lo p)) : lvOk l s ms lv = true := by
  rw [lvOk_iff]
  have hd : ∀ p, p < l.length → lv.getD p 0 = lvl l s ms lo p := fun p hp => by rw [List.getD_eq_getElem?_getD, hlv p hp]; rfl
  have hsl := g.len
  refine ⟨hlen, hfil, fun i hi hb => ?_⟩
  have hstep : ∀ p, i = p + 1 → lvl l s ms lo i ≤ lvl l s ms lo p ∧ (1 < Dp s i → lvl l s ms lo i = lvl l s ms lo p) := by
    rintro p rfl
    have h1 := lvl_ge (l := l) (t := s) (ms := ms) (lo := lo) p (by omega)
    have h2 : topR l s ms lo (l.length - (p + 1)) ≤ topR l s ms lo (l.length - p) := topR_up (by omega)
    constructor
    · show (if _ then _ else _) ≤ _
      split <;> omega
    · intro h
      show (if _ then _ else _) = _
      rw [if_pos h]
  rcases hb with ⟨h0, hb⟩ | ⟨h0, hb, hdp⟩ | ⟨h63, hb⟩
  · rw [hd i hi, hd (i - 1) (by omega)] at hb
    have := (hstep (i - 1) (by omega)).1
    omega
  · rw [hd i hi, hd (i - 1) (by omega)] at hb
    have := (hstep (i - 1) (by omega)).2 hdp
    omega
  · have l63 : l[i]? = some 63 := by
      rw [List.getElem?_eq_getElem hi]
      rw [List.getD_eq_getElem?_getD, List.getElem?_eq_getElem hi] at h63
      exact congrArg some h63
    rw [hd i hi] at hb
    rcases hb with ⟨hs, hb⟩ | ⟨hs, hb⟩
    · have s40 : s[i]? = some 40 := by
        rw [List.getElem?_eq_getElem (show i < s.length by omega)]
        rw [List.getD_eq_getElem?_getD, List.getElem?_eq_getElem (show i < s.length by omega)] at hs
        exact congrArg some hs
      have h1 := lvl_ge (l := l) (t := s) (ms := ms) (lo := lo) i (by omega)
      have h2 := topR_one (ms := ms) (lo := lo) hi l63 s40
      omega
    · have s41 : s[i]? = some 41 := by
        rw [List.getElem?_eq_getElem (show i < s.length by omega)]
        rw [List.getD_eq_getElem?_getD, List.getElem?_eq_getElem (show i < s.length by omega)] at hs
        exact congrArg some hs
      obtain ⟨k, hk1, hk2, hk3⟩ := lvl_is (l := l) (t := s) (ms := ms) (lo := lo) i
      rw [hk2] at hb
      rcases topR_is (l := l) (t := s) (ms := ms) (lo := lo) (l.length - k) (by omega) with e | ⟨q, h1, h2, h3, h4, h5⟩
      · have := hlo i hi
        omega
      · have := g.ex q i h3 h4 l63 s41 hi (by
          by_cases hiq : i < q
          · exact .inl hiq
          · exact .inr fun j hj1 hj2 => by have := hk3 j (by omega) hj2; omega)
        omega
/-! ### none is cheaper -/
def opn (t : List Nat) (p : Nat) : Int := if t.getD p 0 = 40 then 1 else 0
/-- what t costs more than all closed, among the first k places -/
def gain (l t : List Nat) (ms : List Int) : Nat → Int
  | 0 => 0
  | k + 1 => gain l t ms k + (if l.getD k 0 = 63 then opn t k * ms.getD k 0 else 0)
theorem cheap_step (a b x y m : Int) (h1 : a * x ≤ y) (h2 : b ≤ a) (h3 : b < a → 0 ≤ x) : b * x ≤ y := by
  by_cases h : b = a
  · rw [h]; exact h1
  · have hx := h3 (by omega)
    have := Int.mul_le_mul_of_nonneg_right h2 hx
    omega
theorem lvOk_cheap {l t u : List Nat} {ms lv : List Int} (h : lvOk l t ms lv = true) (ht : IsRow t) (hu : isFilling l u = true) (hur : IsRow u) : gain l t ms l.length ≤ gain l u ms l.length := by
  obtain ⟨hlen, hfil, hno⟩ := (lvOk_iff _ _ _ _).mp h
  have un : ∀ {w : List Nat}, isFilling l w = true → IsRow w → w.length = l.length ∧ fits l w = true ∧ run 0 w = some 0 := fun {w} h hr => by
    unfold isFilling at h
    rw [Bool.and_eq_true, Bool.and_eq_true, decide_eq_true_eq] at h
    exact ⟨h.1, h.2.2, (isClosed_iff w hr).mp h.2.1⟩
  obtain ⟨t1, t2, t3⟩ := un hfil ht
  obtain ⟨u1, u2, u3⟩ := un hu hur
  have bt := run_br t 0 0 t3
  have bu := run_br u 0 0 u3
  -- twice the difference of opened ones
  have key : ∀ k, k < l.length → ∃ X : Int, 2 * X = Dp u (k + 1) - Dp t (k + 1) ∧ lv.getD k 0 * X ≤ gain l u ms (k + 1) - gain l t ms (k + 1) := by
    have step : ∀ k, k < l.length → ∀ X : Int, 2 * X = Dp u k - Dp t k → lv.getD k 0 * X ≤ gain l u ms k - gain l t ms k → ∃ X : Int, 2 * X = Dp u (k + 1) - Dp t (k + 1) ∧ lv.getD k 0 * X ≤ gain l u ms (k + 1) - gain l t ms (k + 1) := by
      intro k hk X hX hle
      have et : t[k]? = some t[k] := List.getElem?_eq_getElem (by omega)
      have eu : u[k]? = some u[k] := List.getElem?_eq_getElem (by omega)
      have el : l[k]? = some l[k] := List.getElem?_eq_getElem hk
      have hgt : t.getD k 0 = t[k] := by rw [List.getD_eq_getElem?_getD, et]; rfl
      have hgu : u.getD k 0 = u[k] := by rw [List.getD_eq_getElem?_getD, eu]; rfl
      have hgl : l.getD k 0 = l[k] := by rw [List.getD_eq_getElem?_getD, el]; rfl
      have ct := bt _ (List.mem_of_getElem? et)
      have cu := bu _ (List.mem_of_getElem? eu)
      have nb := hno k hk
      unfold bad at nb
      rw [hgt, hgl] at nb
      have dt : Dp t (k + 1) = dst (Dp t k) t[k] := Dp_succ et
      have du : Dp u (k + 1) = dst (Dp u k) u[k] := Dp_succ eu
      refine ⟨X + (opn u k - opn t k), ?_, ?_⟩
      · rw [dt, du]
        unfold opn dst
        rw [hgt, hgu]
        split <;> split <;> omega
      · show _ ≤ (gain l u ms k + (if l.getD k 0 = 63 then opn u k * ms.getD k 0 else 0)) - (gain l t ms k + (if l.getD k 0 = 63 then opn t k * ms.getD k 0 else 0))
        have e3 : l[k] ≠ 63 → opn u k = opn t k := fun h63 => by
          have e1 := fits_get t1 t2 el h63
          have e2 := fits_get u1 u2 el h63
          unfold opn
          rw [hgt, hgu]
          rw [et] at e1
          rw [eu] at e2
          rw [Option.some.inj e1, Option.some.inj e2]
        rw [hgl, Int.mul_add]
        generalize lv.getD k 0 = a at *
        generalize ms.getD k 0 = m at *
        generalize gain l u ms k = gu at *
        generalize gain l t ms k = gt at *
        by_cases h63 : l[k] = 63
        · rw [if_pos h63, if_pos h63]
          unfold opn
          rw [hgt, hgu]
          by_cases a1 : t[k] = 40
          · by_cases a2 : u[k] = 40
            · rw [if_pos a1, if_pos a2]; simp; omega
            · rw [if_pos a1, if_neg a2]; simp; omega
          · by_cases a2 : u[k] = 40
            · rw [if_neg a1, if_pos a2]; simp; omega
            · rw [if_neg a1, if_neg a2]; simp; omega
        · rw [if_neg h63, if_neg h63, e3 h63]
          simp; omega
    intro k
    induction k with
    | zero =>
      intro hk
      exact step 0 hk 0 (by rw [Dp_zero, Dp_zero]; rfl) (by show _ * 0 ≤ (0 : Int) - 0; simp)
    | succ k ih =>
      intro hk
      obtain ⟨X, h1, h2⟩ := ih (by omega)
      refine step (k + 1) hk X h1 ?_
      have nb := hno (k + 1) hk
      unfold bad at nb
      have hs : k + 1 - 1 = k := by omega
      rw [hs] at nb
      refine cheap_step _ _ X _ 0 h2 (by omega) fun hlt => ?_
      have h3 : ¬ 1 < Dp t (k + 1) := fun hh => nb (.inr (.inl ⟨by omega, hlt, hh⟩))
      have h4 := Dp_nonneg u3 (k + 1)
      omega
  by_cases h0 : l.length = 0
  · rw [h0]; exact Int.le_refl _
  · obtain ⟨X, h1, h2⟩ := key (l.length - 1) (by omega)
    rw [show l.length - 1 + 1 = l.length by omega] at h1 h2
    have e1 := Dp_end t3
    have e2 := Dp_end u3
    rw [t1] at e1
    rw [u1] at e2
    have : X = 0 := by omega
    rw [this, Int.mul_zero] at h2
    omega
end BR

set_option Elab.async false
set_option linter.all false
set_option maxRecDepth 100000
set_option maxHeartbeats 1000000
/-! The waiting prices. -/
namespace BR
open L2 (prLt)
theorem nd_get {l : List Int} (n : l.Nodup) {m j : Nat} (h : m < j) {x : Int} (h1 : l[m]? = some x) (h2 : l[j]? = some x) : False := by
  obtain ⟨a1, a2⟩ := List.getElem?_eq_some_iff.mp h1
  obtain ⟨b1, b2⟩ := List.getElem?_eq_some_iff.mp h2
  exact List.pairwise_iff_getElem.mp n m j a1 b1 h (a2.trans b2.symm)
structure WOk (l : List Nat) (ms : List Int) (i : Nat) (s : List Nat) (W : List L2.Pr) : Prop where
  is : ∀ z ∈ W, ∃ q : Nat, z.2 = (ms.getD q 0, (q : Int)) ∧ q < i ∧ l[q]? = some 63 ∧ s[q]? = some 41
  all : ∀ q : Nat, q < i → l[q]? = some 63 → s[q]? = some 41 → ∃ z ∈ W, z.2 = (ms.getD q 0, (q : Int))
  nd : (W.map (·.2.2)).Nodup
  len : W.length ≤ i
theorem WOk.start (l : List Nat) (ms : List Int) (s : List Nat) : WOk l ms 0 s [] :=
  ⟨fun _ h => (by cases h), fun q h => (by omega), List.nodup_nil, Nat.le_refl _⟩
section
variable {l : List Nat} {ms : List Int} {i : Nat} {s : List Nat} {W : List L2.Pr}
theorem WOk.skip (w : WOk l ms i s W) {c : Nat} (hc : l[i]? = some c) (h63 : c ≠ 63) : WOk l ms (i + 1) s W :=
  ⟨fun z hz => by
    obtain ⟨q, h1, h2, h3, h4⟩ := w.is z hz
    exact ⟨q, h1, by omega, h3, h4⟩, fun q hq h1 h2 => by
    by_cases e : q = i
    · subst e; rw [hc] at h1; exact absurd (Option.some.inj h1) h63
    · exact w.all q (by omega) h1 h2, w.nd, by have := w.len; omega⟩
theorem WOk.push (w : WOk l ms i s W) (hc : l[i]? = some 63) (hs : s[i]? = some 41) (a : PySem.Addr) {m : Int} (hm : m = ms.getD i 0) : WOk l ms (i + 1) s (W ++ [(a, m, (i : Int))]) := by
  subst hm
  refine ⟨fun z hz => ?_, fun q hq h1 h2 => ?_, ?_, by have := w.len; simp; omega⟩
  · rcases List.mem_append.mp hz with h | h
    · obtain ⟨q, h1, h2, h3, h4⟩ := w.is z h
      exact ⟨q, h1, by omega, h3, h4⟩
    · rw [List.mem_singleton.mp h]
      exact ⟨i, rfl, by omega, hc, hs⟩
  · by_cases e : q = i
    · subst e
      exact ⟨(a, ms.getD q 0, (q : Int)), by simp, rfl⟩
    · obtain ⟨z, hz, e⟩ := w.all q (by omega) h1 h2
      exact ⟨z, List.mem_append_left _ hz, e⟩
  · rw [List.map_append, List.nodup_append]
    refine ⟨w.nd, by simp, fun x hx y hy => ?_⟩
    obtain ⟨z, hz, rfl⟩ := List.mem_map.mp hx
    obtain ⟨q, h1, h2, _⟩ := w.is z hz
    rw [h1]
    have hy : y = (i : Int) := by simpa using hy
    rw [hy]
    show (q : Int) ≠ (i : Int)
    omega
theorem WOk.best (w : WOk l ms i s W) {z : L2.Pr} (hz : z ∈ W) (hm : ∀ y ∈ W, ¬ prLt y.2 z.2) : ∃ b : Nat, z.2 = (ms.getD b 0, (b : Int)) ∧ b < i ∧ l[b]? = some 63 ∧ s[b]? = some 41 ∧ ∀ q : Nat, q < i → l[q]? = some 63 → s[q]? = some 41 → ms.getD b 0 ≤ ms.getD q 0 := by
  obtain ⟨b, h1, h2, h3, h4⟩ := w.is z hz
  refine ⟨b, h1, h2, h3, h4, fun q hq lq sq => ?_⟩
  obtain ⟨y, hy, e⟩ := w.all q hq lq sq
  have := hm y hy
  rw [h1, e] at this
  unfold prLt at this
  simp only at this
  omega
theorem WOk.one (w : WOk l ms i s W) {j m : Nat} {z y : L2.Pr} (hj : W[j]? = some z) (hm : m < j) (hy : W[m]? = some y) : y.2 ≠ z.2 := by
  intro e
  have h1 : (W.map (·.2.2))[m]? = some y.2.2 := by rw [List.getElem?_map, hy]; rfl
  have h2 : (W.map (·.2.2))[j]? = some z.2.2 := by rw [List.getElem?_map, hj]; rfl
  rw [e] at h1
  exact nd_get w.nd hm h1 h2
theorem WOk.del (w : WOk l ms i s W) {j b : Nat} {z : L2.Pr} (hj : W[j]? = some z) (hz : z.2 = (ms.getD b 0, (b : Int))) : WOk l ms i (s.set b 40) (W.eraseIdx j) := by
  have hne : ∀ y, y ∈ W.eraseIdx j → y.2.2 ≠ (b : Int) := by
    intro y hy e
    obtain ⟨m, hm, hy'⟩ := List.mem_eraseIdx_iff_getElem?.mp hy
    have h1 : (W.map (·.2.2))[m]? = some (b : Int) := by rw [List.getElem?_map, hy', ← e]; rfl
    have h2 : (W.map (·.2.2))[j]? = some (b : Int) := by rw [List.getElem?_map, hj, show (b : Int) = z.2.2 by rw [hz]]; rfl
    rcases Nat.lt_or_gt_of_ne hm with h | h
    · exact nd_get w.nd h h1 h2
    · exact nd_get w.nd h h2 h1
  refine ⟨fun y hy => ?_, fun q hq lq sq => ?_, ?_, ?_⟩
  · have hyW := List.mem_of_mem_eraseIdx hy
    obtain ⟨q, h1, h2, h3, h4⟩ := w.is y hyW
    refine ⟨q, h1, h2, h3, ?_⟩
    have hqb : b ≠ q := fun e => by
      subst e
      exact hne y hy (by rw [h1])
    rw [List.getElem?_set_ne hqb]
    exact h4
  · have hqb : b ≠ q := fun e => by
      subst e
      have hlt := (List.getElem?_eq_some_iff.mp sq).1
      rw [List.length_set] at hlt
      rw [List.getElem?_set_self hlt] at sq
      cases sq
    rw [List.getElem?_set_ne hqb] at sq
    obtain ⟨y, hy, e⟩ := w.all q hq lq sq
    refine ⟨y, ?_, e⟩
    obtain ⟨m, hm⟩ := List.getElem?_of_mem hy
    refine List.mem_eraseIdx_iff_getElem?.mpr ⟨m, fun e2 => ?_, hm⟩
    subst e2
    rw [hj] at hm
    cases hm
    rw [hz] at e
    have := congrArg (·.2) e
    simp only at this
    omega
  · rw [L2.er_map]
    exact w.nd.sublist (List.eraseIdx_sublist _ _)
  · exact Nat.le_trans (List.length_eraseIdx_le ..) w.len
end
theorem mores_get : ∀ (l : List Nat) (ds : List Int) (i : Nat), l[i]? = some 63 → (mores l ds).getD i 0 = ds.getD ((l.take i).count 63) 0
  | [], _, _, h => by cases h
  | c :: r, ds, 0, h => by
    have h : some c = some 63 := h
    cases h
    rfl
  | c :: r, ds, i + 1, h => by
    have ih := mores_get r
    have h : r[i]? = some 63 := h
    by_cases hc : c = 63
    · subst hc
      show (ds.getD 0 0 :: mores r (ds.drop 1)).getD (i + 1) 0 = _
      rw [List.getD_cons_succ, ih _ _ h, List.take_succ_cons, List.count_cons_self]
      simp [List.getD_eq_getElem?_getD, Nat.add_comm]
    · have e : mores (c :: r) ds = 0 :: mores r ds := by rw [mores, if_neg hc]
      rw [e, List.getD_cons_succ, ih _ _ h, List.take_succ_cons, List.count_cons_of_ne hc]
theorem cnt_succ {l : List Nat} {i c : Nat} (h : l[i]? = some c) : (l.take (i + 1)).count 63 = (l.take i).count 63 + (if c = 63 then 1 else 0) := by
  rw [List.take_add_one, h, List.count_append]
  show _ + [c].count 63 = _
  by_cases hc : c = 63
  · subst hc; rfl
  · rw [if_neg hc, List.count_singleton, if_neg (by simp; exact hc)]
theorem cnt_lt {l : List Nat} {i : Nat} (h : l[i]? = some 63) : (l.take i).count 63 < l.count 63 := by
  have h1 := cnt_succ h
  have h2 : (l.take (i + 1)).count 63 + (l.drop (i + 1)).count 63 = l.count 63 := by rw [← List.count_append, List.take_append_drop]
  simp at h1
  omega
end BR

set_option Elab.async false
set_option linter.all false
set_option maxRecDepth 100000
set_option maxHeartbeats 4000000
namespace HT
open PySem PySem.Spec PyProof.Rows L2 BR
local macro_rules | `(tactic| walk_at "sq") => `(tactic| first | exact SqL.of (by assumption) | exact SqL.of upd_same | exact SqT.of (by assumption) | exact SqT.of upd_same | assumption | exact Same.seq (by assumption) (by assumption) | exact Same.seq (Same.trans (by assumption) (by assumption)) (by assumption))
local macro_rules | `(tactic| walk_at "len") => `(tactic| (simp only [List.length_append, List.length_map, List.length_cons, List.length_nil, List.length_set, List.length_replicate, List.length_take, List.length_drop, List.length_reverse, List.length_range, dpi_len, dps_len, len_S]; omega))
local macro_rules | `(tactic| walk_at "g1") => `(tactic| first
  | refine ⟨_, rfl, ?_⟩
  | refine ⟨rfl, ?_⟩
  | refine ⟨_, _, rfl, rfl, @id.{0} _ (by first | decide | omega | exact ⟨by decide, by decide⟩ | exact .inr ⟨by decide, by decide⟩ | (show (0 : Int) < _; decide)), ?_⟩
  | refine ⟨_, _, rfl, rfl, ?_⟩
  | refine ⟨_, _, _, _, rfl, rfl, (by walk_at "sq"), (by first | exact atI_last _ _ | (with_reducible exact atI_nat (by assumption))), ?_⟩
  | refine ⟨.inl ⟨rfl, _, (by walk_at "sq")⟩, ?_⟩
  | refine ⟨_, _, rfl, (by first | exact .inl (by walk_at "sq") | exact .inr (by walk_at "sq")), ?_⟩
  | refine ⟨_, rfl, (by first | exact sz5 (by walk_at "len") | exact szS (by omega)), ?_⟩
  | refine ⟨_, _, _, rfl, rfl, (by assumption), sz5l (by walk_at "len"), ?_⟩)
local macro_rules | `(tactic| walk_at "go") => `(tactic| repeat walk_at "g1")
local macro_rules | `(tactic| walk_at "nxt") => `(tactic| (show tSeq Ends.nx _ _ _ _; refine nx_in ?_))

section
variable {P : Program} {w : World} {K : PySem.W.Frag} {mg : Str → Option Value} {base : Heap}
/-- what opening costs more, pair by pair -/
def difs (L : List L2.Pr) : List Int := L.map fun z => z.2.1 - z.2.2
def spMoresOf (T : Txt K mg) : Sp := fun vs H Q _ => ∃ l a L, vs = [S l, .ref a] ∧ l.length ≤ 90000 ∧ SqL K H a (prV L) ∧ PrsAt H L ∧ L.length = l.count 63 ∧ ∀ H' p, Same H H' → H p = none → H' p = some (.lst ((mores l (difs L)).map V.int)) → Q (.ref p) H'
theorem okMoresOf (T : Txt K mg) : FnOk P w K mg base CX0 1 T.f_mores_of.a T.f_mores_of.fd ["row", "prices"] (spMoresOf T) := by
  refine T.f_mores_of.F.ok scMoresOf (fun vs H Q E h => ?_) (fun cdv A outer s H vs Q E hr h => ?_)
  · obtain ⟨l, a, L, rfl, _⟩ := h
    rfl
  · obtain ⟨l, a, L, rfl, hl, ha, hL, hn, q⟩ := h
    refine ⟨_, (pss_cons (ps_set (i := 2) scMoresOf.nd rfl (by first | exact Or.inl rfl | exact Or.inr rfl) (pe_lst pa_nil))
      (pss_cons (ps_set (i := 3) scMoresOf.nd rfl (by first | exact Or.inl rfl | exact Or.inr rfl) pe_int)
      (pss_cons (ps_for PassesOwn.never rfl (pi_str (pv 0)) (pg_name (i := 4) scMoresOf.nd rfl (by first | exact Or.inl rfl | exact Or.inr rfl))
      (pss_one (ps_if (pt_cmpR op_eq (pv 4) pe_str (nomark _)) (pss_cons (ps_expr (pe_bm PySem.F.plainAttrs_list PySem.F.slot_list_append PySem.F.type_list_append mt_append (pv 2) (pa_cons (pe_op op_sub (pe_ix ix_tup (pe_ix ix_list (pv 1) (pv 3) (fun _ _ => rfl)) pe_int (fun _ _ => rfl)) (pe_ix ix_tup (pe_ix ix_list (pv 1) (pv 3) (fun _ _ => rfl)) pe_int (fun _ _ => rfl))) pa_nil)))
      (pss_one (ps_set (i := 3) scMoresOf.nd rfl (by first | exact Or.inl rfl | exact Or.inr rfl) (pe_op op_add (pv 3) pe_int))))
      (pss_one (ps_expr (pe_bm PySem.F.plainAttrs_list PySem.F.slot_list_append PySem.F.type_list_append mt_append (pv 2) (pa_cons pe_int pa_nil)))))))
      (pss_one (ps_ret (pv 2)))))), ?_⟩
    refine ⟨Nat.zero_le _, fun o no => ?_⟩
    refine ⟨_, rfl, ?_⟩
    refine ⟨_, rfl, for_txt (l := l) (fun p σ H' => ∃ x, σ = [some (S l), some (.ref a), some (.ref o), some (.int ((p.count 63 : Nat) : Int)), x] ∧ Same H H' ∧ H' o = some (.lst ((mores p (difs L)).map V.int)) ∧ p.length ≤ l.length) ⟨none, rfl, Same.new no, upd_same, Nat.zero_le _⟩ ?_ ?_⟩
    · rintro p c r σ H' e ⟨x, rfl, sm, ho, hp⟩
      have hlen : p.length + 1 ≤ l.length := by rw [e]; simp
      have hml := mores_len p (difs L)
      refine ⟨_, rfl, rfl, _, rfl, ite2 (fun hc => ?_) (fun hc => ?_)⟩
      · rw [d_q, decide_eq_true_eq] at hc
        subst hc
        have hk : p.count 63 < L.length := by
          rw [hn, e, List.count_append, List.count_cons_self]
          omega
        have eL : L[p.count 63]? = some L[p.count 63] := List.getElem?_eq_getElem hk
        have hT := sm _ _ (hL _ (List.getElem_mem hk))
        generalize L[p.count 63] = z at eL hT
        have eV : atI (prV L) ((p.count 63 : Nat) : Int) = some (V.ref z.1) := atI_nat (by unfold prV; rw [List.getElem?_map, eL]; rfl)
        have eD : (difs L).getD (p.count 63) 0 = z.2.1 - z.2.2 := by unfold difs; rw [List.getD_eq_getElem?_getD, List.getElem?_map, eL]; rfl
        refine ⟨_, rfl, .inl ⟨rfl, _, SqL.of ho⟩, _, rfl, _, rfl, a, _, _, _, rfl, rfl, sm.seq ha, eV, z.1, _, 0, _, rfl, rfl, SqT.of hT, atI_nat (j := 0) rfl, _, rfl, _, rfl, a, _, _, _, rfl, rfl, sm.seq ha, eV, z.1, _, 1, _, rfl, rfl, SqT.of hT, atI_nat (j := 1) rfl, _, _, rfl, rfl, _, _, _, rfl, rfl, ho, sz5l (by walk_at "len"), ?_⟩
        refine ⟨_, rfl, _, _, rfl, rfl, some (ch 63), ?_, sm.mut no, ?_, by walk_at "len"⟩
        · have ez : ((p ++ [63]).count 63 : Int) = (p.count 63 : Int) + 1 := by
            rw [List.count_append]
            simp
          rw [ez]
          rfl
        · rw [upd_same, mores_snoc, if_pos rfl, List.map_append, eD]; rfl
      · rw [d_q, decide_eq_true_eq] at hc
        refine ⟨_, rfl, .inl ⟨rfl, _, SqL.of ho⟩, _, _, _, rfl, rfl, ho, sz5l (by walk_at "len"), some (ch c), ?_, sm.mut no, ?_, by walk_at "len"⟩
        · have ez : p.count 63 = (p ++ [c]).count 63 := by
            rw [List.count_append]
            simp [List.count_cons, hc]
          rw [← ez]
          rfl
        · rw [upd_same, mores_snoc, if_neg hc, List.map_append]; rfl
    · rintro σ H' ⟨x, rfl, sm, ho, hp⟩
      exact ⟨_, rfl, q _ _ sm no ho⟩
def spOpened (T : Txt K mg) : Sp := fun vs H Q _ => ∃ l a ms, vs = [S l, .ref a] ∧ l.length ≤ 90000 ∧ IsRow l ∧ can l 0 = true ∧ SqL K H a (ms.map V.int) ∧ ms.length = l.length ∧ ∀ H' s, Same H H' → Gr l ms l.length s → Q (S s) H'
theorem okOpened (T : Txt K mg) : FnOk P w K mg base CX0 1 T.f_opened.a T.f_opened.fd ["row", "mores"] (spOpened T) := by
  refine T.f_opened.F.ok scOpened (fun vs H Q E h => ?_) (fun cdv A outer s H vs Q E hr h => ?_)
  · obtain ⟨l, a, ms, rfl, _⟩ := h
    rfl
  · obtain ⟨l, a, ms, rfl, hl, hrw, hc, ha, hml, q⟩ := h
    refine ⟨_, (pss_cons (ps_setLc (i := 2) (own := [("sign", 3)]) rfl scOpened.nd rfl rfl (sw_true rfl rfl rfl (by decide +kernel)) (pi_str (pv 0)) (blkOk_by (own := [("sign", 3)]) (N := ["row", "mores", "signs", "sign", "waiting", "depth", "place", "best"]) (sc := defScope sOpened) (by decide +kernel)) (fun _ _ _ _ _ => (pg_name (i := 3) scOpened.nd rfl (by first | exact Or.inl rfl | exact Or.inr rfl))) (fun _ _ _ _ _ => pts_nil) (fun _ _ _ _ _ => (pe_ifExp (pt_cmpR op_eq (pv 3) pe_str (nomark _)) pe_str pe_str)))
      (pss_cons (ps_set (i := 4) scOpened.nd rfl (by first | exact Or.inl rfl | exact Or.inr rfl) (pe_lst pa_nil))
      (pss_cons (ps_set (i := 5) scOpened.nd rfl (by first | exact Or.inl rfl | exact Or.inr rfl) pe_int)
      (pss_cons (ps_for PassesOwn.never rfl (pi_enumS (by rfl) T.n_enumerate (pa_cons (pv 0) pa_nil)) (pg_tup rfl (pgs_cons (pg_name (i := 6) scOpened.nd rfl (by first | exact Or.inl rfl | exact Or.inr rfl)) (pgs_cons (pg_name (i := 3) scOpened.nd rfl (by first | exact Or.inl rfl | exact Or.inr rfl)) pgs_nil)))
      (pss_cons (ps_set (i := 5) scOpened.nd rfl (by first | exact Or.inl rfl | exact Or.inr rfl) (pe_ifExp (pt_cmpR op_eq (pv 3) pe_str (nomark _)) (pe_op op_add (pv 5) pe_int) (pe_op op_sub (pv 5) pe_int)))
      (pss_cut2 (ps_if (pt_cmpR op_eq (pv 3) pe_str (nomark _)) (pss_one (ps_expr (pe_bm PySem.F.plainAttrs_list PySem.F.slot_list_append PySem.F.type_list_append mt_append (pv 4) (pa_cons (pe_tup (pa_cons (pe_ix ix_list (pv 1) (pv 6) (fun _ _ => rfl)) (pa_cons (pv 6) pa_nil))) pa_nil))))
      pss_nil)
      (pss_one (ps_if (pt_cmpR op_lt (pv 5) pe_int (nomark _)) (pss_cons (ps_set (i := 7) scOpened.nd rfl (by first | exact Or.inl rfl | exact Or.inr rfl) (pe_callB (cr_minP rfl hr.units) (by rfl) T.n_min (by decide +kernel) (pa_cons (pv 4) pa_nil)))
      (pss_cons (ps_expr (pe_bm PySem.F.plainAttrs_list PySem.F.slot_list_remove PySem.F.type_list_remove (mt_remP hr.units) (pv 4) (pa_cons (pv 7) pa_nil)))
      (pss_cons (ps_asg pe_str (pg_sub (pv 2) (pe_ix ix_tup (pv 7) pe_int (fun _ _ => rfl)) set_list))
      (pss_one (ps_set (i := 5) scOpened.nd rfl (by first | exact Or.inl rfl | exact Or.inr rfl) (pe_op op_add (pv 5) pe_int))))))
      pss_nil)))))
      (pss_one (ps_ret (pe_join pe_str (pv 2)))))))), ?_⟩
    obtain ⟨f, hf⟩ := (can_fil _ _).mp hc
    obtain ⟨f1, f2, f3⟩ := (Fil_iff l 0 f hrw).mp hf
    refine ⟨_, rfl, _, rfl, fun so nso => lc_txtY (fun c => ch (if c = 40 then 40 else 41)) nso (by omega) (fun _ => rfl) (fun c H' _ s' Q q => ?_) fun H1 s1 e1 => ?_⟩
    · refine ⟨_, rfl, rfl, _, rfl, ?_⟩
      by_cases h : c = 40
      · have := q H' (Same.refl _)
        rw [if_pos h] at this
        refine iteD ((eq_op c).mpr h) ?_
        have this : Q (.str (St_ [40])) H' := this
        rw [← lit_op] at this; exact this
      · have := q H' (Same.refl _)
        rw [if_neg h] at this
        refine iteDn (fun e => h ((eq_op c).mp e)) ?_
        have this : Q (.str (St_ [41])) H' := this
        rw [← lit_cl] at this; exact this
    refine ⟨Nat.zero_le _, fun wo nwo => ?_⟩
    have hwo : H wo = none := s1.free nwo
    have nso2 : so ≠ wo := ne_of_none e1 nwo
    refine ⟨_, rfl, _, rfl, for_enS (l := l) (fun p σ H' => ∃ x3 x6 x7 s W, σ = [some (S l), some (.ref a), some (.ref so), x3, some (.ref wo), some (.int (Dp s p.length)), x6, x7] ∧ Same H H' ∧ H' so = some (.lst (s.map ch)) ∧ H' wo = some (.lst (prV W)) ∧ PrsAt H' W ∧ Gr l ms p.length s ∧ WOk l ms p.length s W ∧ p.length ≤ l.length)
      ⟨_, _, _, _, [], rfl, s1.trans (Same.new nwo), ?_, upd_same, (fun z hz => by cases hz), Gr.start ms hrw, WOk.start _ _ _, Nat.zero_le _⟩ ?_ ?_⟩
    · rw [upd_ne nso2, e1, List.map_map]; rfl
    · rintro p c r σ H3 H4 e ⟨x3, x6, x7, s, W, rfl, sm, g1, g2, hP, g, wk, hp⟩ s34
      have hlen : p.length + 1 ≤ l.length := by rw [e]; simp
      have hci : l[p.length]? = some c := by rw [e]; simp
      have hcc := hrw c (List.mem_of_getElem? hci)
      have el : (p ++ [c]).length = p.length + 1 := by simp
      have sm4 := sm.trans s34
      have g1 := s34 _ _ g1
      have g2 := s34 _ _ g2
      have hP : PrsAt H4 W := fun z hz => s34 _ _ (hP z hz)
      have hs41 : c = 63 → s[p.length]? = some 41 := fun h => g.rest _ (Nat.le_refl _) (by rw [hci, h])
      have hd1 : Dp s (p.length + 1) = if c = 40 then Dp s p.length + 1 else Dp s p.length - 1 := by
        by_cases h63 : c = 63
        · rw [Dp_succ (hs41 h63), if_neg (by omega)]; rfl
        · rw [Dp_succ (g.fix _ _ hci h63)]; rfl
      rw [el]
      generalize p.length = i at *
      refine sq_set (.int (Dp s (i + 1))) (fun Q q => ?_) ?_
      · rw [hd1] at q
        refine ⟨_, rfl, rfl, _, rfl, ?_⟩
        by_cases h : c = 40
        · rw [if_pos h] at q
          exact iteD ((eq_op c).mpr h) ⟨_, rfl, _, _, rfl, rfl, q⟩
        · rw [if_neg h] at q
          exact iteDn (fun e => h ((eq_op c).mp e)) ⟨_, rfl, _, _, rfl, rfl, q⟩
      refine ⟨fun σ' H' => ∃ W', σ' = [some (S l), some (.ref a), some (.ref so), some (ch c), some (.ref wo), some (.int (Dp s (i + 1))), some (.int (i : Nat)), x7] ∧ Same H H' ∧ H' so = some (.lst (s.map ch)) ∧ H' wo = some (.lst (prV W')) ∧ PrsAt H' W' ∧ WOk l ms (i + 1) s W', ?_, ?_⟩
      · refine ⟨_, rfl, rfl, _, rfl, ?_⟩
        by_cases h63 : c = 63
        · have eM : atI (ms.map V.int) ((i : Nat) : Int) = some (.int (ms.getD i 0)) := atI_nat (by rw [List.getElem?_map, List.getD_eq_getElem?_getD, List.getElem?_eq_getElem (by omega)]; rfl)
          subst h63
          refine iteD ((eq_qu 63).mpr rfl) ⟨_, rfl, .inl ⟨rfl, _, SqL.of g2⟩, _, rfl, _, rfl, a, _, _, _, rfl, rfl, sm4.seq ha, eM, _, rfl, sz5 (by simp), fun pt npt => ?_⟩
          have st := Same.new npt (o := HO.tup [V.int (ms.getD i 0), V.int (i : Nat)])
          have npw : pt ≠ wo := fun h => by rw [h, g2] at npt; cases npt
          have hwl := wk.len
          refine ⟨_, _, _, rfl, rfl, st _ _ g2, sz5l (by unfold prV; rw [List.length_map]; omega), W ++ [(pt, ms.getD i 0, (i : Int))], rfl, (sm4.trans st).mut hwo, ?_, ?_, ?_, wk.push hci (hs41 rfl) pt rfl⟩
          · rw [upd_ne nso2]; exact st _ _ g1
          · rw [upd_same]; simp [prV]
          · intro z hz
            rcases List.mem_append.mp hz with hz | hz
            · have h1 := hP z hz
              have : z.1 ≠ wo := fun h => by rw [h, g2] at h1; cases h1
              rw [upd_ne this]; exact st _ _ h1
            · rw [List.mem_singleton.mp hz, upd_ne npw]; exact upd_same
        · exact iteDn (fun e => h63 ((eq_qu c).mp e)) ⟨W, rfl, sm4, g1, g2, hP, wk.skip hci h63⟩
      rintro σ' H5 ⟨W', rfl, sm5, g1, g2, hP, wk⟩
      by_cases h0 : Dp s (i + 1) < 0
      · obtain ⟨b0, hb0, lb0, sb0⟩ := g.has (by omega) h0 f1 f2 f3
        obtain ⟨z0, hz0, _⟩ := wk.all b0 (by omega) lb0 sb0
        refine ⟨_, rfl, _, _, rfl, rfl, _, rfl, iteD h0 ?_⟩
        refine ⟨_, rfl, wo, W', rfl, SqL.of g2, hP, (fun h => by rw [h] at hz0; cases hz0), fun z hz hm => ?_⟩
        obtain ⟨b, z2, hb, lb, sb, hmin⟩ := wk.best hz hm
        obtain ⟨j, hj⟩ := List.getElem?_of_mem hz
        obtain ⟨gr, hD⟩ := g.opens (by omega) h0 (by omega) lb sb fun q hq => hmin q (by omega)
        have hpz := hP z hz
        have hzw : z.1 ≠ wo := fun h => by rw [h, g2] at hpz; cases hpz
        have hzs : z.1 ≠ so := fun h => by rw [h, g1] at hpz; cases hpz
        refine ⟨_, rfl, .inl ⟨rfl, _, SqL.of g2⟩, _, rfl, wo, z.1, W', j, z.2, rfl, rfl, g2, hP, hpz, ⟨z, hj, rfl⟩, (fun m y hm hy => wk.one hj hm hy), ?_⟩
        have hbl : b < (s.map ch).length := by rw [List.length_map, g.len]; omega
        refine ⟨_, rfl, _, rfl, z.1, _, 1, _, rfl, rfl, SqT.of (by rw [upd_ne hzw]; exact hpz), atI_nat (j := 1) rfl, so, _, (b : Int), b, rfl, by rw [z2], by rw [upd_ne nso2]; exact g1, ixN_nat hbl, ?_⟩
        refine ⟨_, rfl, _, _, rfl, rfl, _, _, _, s.set b 40, W'.eraseIdx j, by rw [hD]; rfl, (sm5.mut hwo).mut nso, ?_, ?_, ?_, gr, wk.del hj z2, by omega⟩
        · rw [upd_same, List.map_set, lit_op]
        · rw [upd_ne nso2.symm, upd_same]
        · intro y hy
          have hyW := List.mem_of_mem_eraseIdx hy
          have h1 := hP y hyW
          have n1 : y.1 ≠ wo := fun h => by rw [h, g2] at h1; cases h1
          have n2 : y.1 ≠ so := fun h => by rw [h, g1] at h1; cases h1
          rw [upd_ne n2, upd_ne n1]; exact h1
      · refine ⟨_, rfl, _, _, rfl, rfl, _, rfl, iteDn h0 ⟨_, _, _, s, W', rfl, sm5, g1, g2, hP, g.keep (by omega) (by omega), wk, by omega⟩⟩
    · rintro σ H3 ⟨x3, x6, x7, s, W, rfl, sm, g1, g2, hP, g, wk, hp⟩
      exact ⟨⟨_, rfl⟩, _, rfl, join_rd (SqL.of g1) (by rw [g.len]; omega) (q _ s sm g)⟩
theorem rd_minDf {K : PySem.W.Frag} {a : Addr} {ms : List Int} {H : Hp} {Q : VK} (h : SqL K H a (ms.map V.int)) (q : ∀ lo : Int, (∀ y ∈ ms, lo ≤ y) → Q (.int lo) H) : rMinDf K [V.ref a] [V.int 0] H Q :=
  ⟨a, ms, 0, rfl, rfl, h, fun e => q 0 (by rw [e]; intro y hy; cases hy), fun m _ hm => q m hm⟩
def spLevelsOf (T : Txt K mg) : Sp := fun vs H Q _ => ∃ l t a ms, vs = [S l, S t, .ref a] ∧ l.length ≤ 90000 ∧ t.length = l.length ∧ SqL K H a (ms.map V.int) ∧ ms.length = l.length ∧ ∀ (H' : Hp) (p : Addr) (lv : List Int) (lo : Int), Same H H' → H p = none → H' p = some (.lst (lv.map V.int)) → lv.length = l.length → (∀ p, p < l.length → lo ≤ ms.getD p 0) → (∀ p, p < l.length → lv[p]? = some (lvl l t ms lo p)) → Q (.ref p) H'
theorem okLevelsOf (T : Txt K mg) : FnOk P w K mg base CX0 5 T.f_levels_of.a T.f_levels_of.fd ["row", "text", "mores"] (spLevelsOf T) := by
  refine T.f_levels_of.F.ok scLevelsOf (fun vs H Q E h => ?_) (fun cdv A outer s H vs Q E hr h => ?_)
  · obtain ⟨l, t, a, ms, rfl, _⟩ := h
    rfl
  · obtain ⟨l, t, a, ms, rfl, hl, ht, ha, hml, q⟩ := h
    refine ⟨_, (pss_cons (ps_set (i := 3) scLevelsOf.nd rfl (by first | exact Or.inl rfl | exact Or.inr rfl) (pe_call (okDepthsOf T) (hr.mono (by decide)) (by rfl) T.f_depths_of.g T.f_depths_of.F.kp T.f_depths_of.b .nil pass0 (pa_cons (pv 1) pa_nil)))
      (pss_cons (ps_set (i := 4) scLevelsOf.nd rfl (by first | exact Or.inl rfl | exact Or.inr rfl) (pe_callBK (cr_minDf rfl hr.units) (by rfl) T.n_min (by decide +kernel) (pa_cons (pv 2) pa_nil) (pk_cons pe_int pk_nil)))
      (pss_cons (ps_set (i := 5) scLevelsOf.nd rfl (by first | exact Or.inl rfl | exact Or.inr rfl) (pe_lst pa_nil))
      (pss_cons (ps_for PassesOwn.never rfl (pi_revR (by rfl) T.n_reversed (prg_1 (by rfl) T.n_range (pe_callB call_len_str (by rfl) T.n_len PySem.boot_len (pa_cons (pv 0) pa_nil)))) (pg_name (i := 6) scLevelsOf.nd rfl (by first | exact Or.inl rfl | exact Or.inr rfl))
      (pss_cut2 (ps_if (PW.pt (pw_and (pt_cmpR op_eq (pe_ix ix_str (pv 0) (pv 6) (fun _ _ => rfl)) pe_str (nomark _)) (pw_and1 (pt_cmpR op_eq (pe_ix ix_str (pv 1) (pv 6) (fun _ _ => rfl)) pe_str (nomark _))))) (pss_one (ps_set (i := 4) scLevelsOf.nd rfl (by first | exact Or.inl rfl | exact Or.inr rfl) (pe_callB (call_max2 rfl) (by rfl) T.n_max (by decide +kernel) (pa_cons (pv 4) (pa_cons (pe_ix ix_list (pv 2) (pv 6) (fun _ _ => rfl)) pa_nil)))))
      pss_nil)
      (pss_one (ps_expr (pe_bm PySem.F.plainAttrs_list PySem.F.slot_list_append PySem.F.type_list_append mt_append (pv 5) (pa_cons (pv 4) pa_nil))))))
      (pss_cons (ps_set (i := 5) scLevelsOf.nd rfl (by first | exact Or.inl rfl | exact Or.inr rfl) (pe_revL (pv 5)))
      (pss_cons (ps_for PassesOwn.never rfl (pi_range2 (by rfl) T.n_range (pa_cons pe_int (pa_cons (pe_callB call_len_seq (by rfl) T.n_len PySem.boot_len (pa_cons (pv 5) pa_nil)) pa_nil))) (pg_name (i := 6) scLevelsOf.nd rfl (by first | exact Or.inl rfl | exact Or.inr rfl))
      (pss_one (ps_if (pt_cmpR op_gt (pe_ix ix_list (pv 3) (pv 6) (fun _ _ => rfl)) pe_int (nomark _)) (pss_one (ps_asg (pe_ix ix_list (pv 5) (pe_op op_sub (pv 6) pe_int) (fun _ _ => rfl)) (pg_sub (pv 5) (pv 6) set_list)))
      pss_nil)))
      (pss_one (ps_ret (pv 5))))))))), ?_⟩
    refine ⟨_, rfl, t, rfl, by omega, fun H1 tp s1 ntp htp => ?_⟩
    refine ⟨_, rfl, ?_⟩
    dsimp only [tNil, tCons, tC]
    show rMinDf K [V.ref a] [V.int 0] H1 _
    refine rd_minDf (s1.seq ha) fun lo hlo => ?_
    have hlo' : ∀ p, p < l.length → lo ≤ ms.getD p 0 := fun p hp => hlo _ (by
      have hp' : p < ms.length := by omega
      rw [List.getD_eq_getElem?_getD, List.getElem?_eq_getElem hp']
      exact List.getElem_mem hp')
    have eM : ∀ p, p < l.length → atI (ms.map V.int) ((p : Nat) : Int) = some (.int (ms.getD p 0)) := fun p hp => atI_nat (by rw [List.getElem?_map, List.getD_eq_getElem?_getD, List.getElem?_eq_getElem (by omega)]; rfl)
    refine ⟨Nat.zero_le _, fun fo nfo => ?_⟩
    have hfo : H fo = none := s1.free nfo
    have en : (((St_ l).length : Int) - 0).toNat = l.length := by rw [len_S]; omega
    refine ⟨_, rfl, St_ l, rfl, szS (by omega), _, rfl, (by decide), (by decide), (by rw [len_S]; omega), (by rw [len_S]; omega), ?_⟩
    rw [en]
    refine for_rangeC (n := l.length) (fun i σ H' => ∃ x6, σ = [some (S l), some (S t), some (.ref a), some (.ref tp), some (.int (topR l t ms lo i)), some (.ref fo), x6] ∧ Same H H' ∧ Same H1 H' ∧ H' fo = some (.lst (((List.range i).map fun j => topR l t ms lo (j + 1)).map V.int)))
      ⟨_, rfl, s1.trans (Same.new nfo), Same.new nfo, upd_same⟩ ?_ ?_
    · rintro i σ H3 hi ⟨x6, rfl, sm, sm1, g⟩
      have ep : 0 + ((l.length : Nat) : Int) - 1 + ((i : Nat) : Int) * -1 = ((l.length - 1 - i : Nat) : Int) := by omega
      rw [ep]
      have ec : l[l.length - 1 - i]? = some l[l.length - 1 - i] := List.getElem?_eq_getElem (by omega)
      have ed : t[l.length - 1 - i]? = some t[l.length - 1 - i] := List.getElem?_eq_getElem (by omega)
      have eMi := eM (l.length - 1 - i) (by omega)
      have eT : topR l t ms lo (i + 1) = if l[l.length - 1 - i]? = some 63 ∧ t[l.length - 1 - i]? = some 40 then max (topR l t ms lo i) (ms.getD (l.length - 1 - i) 0) else topR l t ms lo i := rfl
      generalize l[l.length - 1 - i] = c at ec
      generalize t[l.length - 1 - i] = d at ed
      rw [ec, ed] at eT
      generalize l.length - 1 - i = pl at *
      refine ⟨fun σ' H' => σ' = [some (S l), some (S t), some (.ref a), some (.ref tp), some (.int (topR l t ms lo (i + 1))), some (.ref fo), some (.int (pl : Nat))] ∧ H' = H3, ?_, ?_⟩
      · refine ⟨_, rfl, _, rfl, _, _, c, rfl, rfl, szS (by omega), atI_nat ec, rfl, _, rfl, ?_⟩
        by_cases h63 : c = 63
        · refine iteD ((eq_qu c).mpr h63) ⟨_, rfl, _, rfl, _, _, d, rfl, rfl, szS (by omega), atI_nat ed, rfl, _, rfl, ?_⟩
          by_cases h40 : d = 40
          · rw [if_pos ⟨by rw [h63], by rw [h40]⟩] at eT
            refine iteD ((eq_op d).mpr h40) ⟨_, rfl, _, rfl, _, rfl, a, _, _, _, rfl, rfl, sm.seq ha, eMi, _, _, rfl, ?_, rfl⟩
            have : (if ms.getD pl 0 > topR l t ms lo i then ms.getD pl 0 else topR l t ms lo i) = topR l t ms lo (i + 1) := by rw [eT]; split <;> omega
            show [_, _, _, _, some (V.int (if _ then _ else _)), _, _] = _
            rw [this]
          · rw [if_neg (fun h => h40 (Option.some.inj h.2))] at eT
            exact iteDn (fun e => h40 ((eq_op d).mp e)) ⟨by rw [eT]; rfl, rfl⟩
        · rw [if_neg (fun h => h63 (Option.some.inj h.1))] at eT
          exact iteDn (fun e => h63 ((eq_qu c).mp e)) ⟨by rw [eT]; rfl, rfl⟩
      rintro σ' H' ⟨rfl, rfl⟩
      refine ⟨_, rfl, .inl ⟨rfl, _, SqL.of g⟩, _, rfl, _, _, _, rfl, rfl, g, sz5l (by walk_at "len"), _, rfl, sm.mut hfo, sm1.mut nfo, ?_⟩
      rw [upd_same, List.range_succ, List.map_append, List.map_append]
      rfl
    rintro σ H3 ⟨x6, rfl, sm, sm1, g⟩
    refine ⟨_, rfl, fo, _, rfl, SqL.of g, fun ro nro => ?_⟩
    have hro : H ro = none := sm.free nro
    have s3 := Same.new nro (o := HO.lst (((List.range l.length).map fun j => topR l t ms lo (j + 1)).map V.int).reverse)
    have htp3 := s3 _ _ (sm1 _ _ htp)
    have ntr : tp ≠ ro := ne_of_none (sm1 _ _ htp) nro
    have er : (((List.range l.length).map fun j => topR l t ms lo (j + 1)).map V.int).reverse = ((List.range l.length).map fun j => topR l t ms lo (l.length - j)).map V.int := by
      rw [← List.map_reverse]
      congr 1
      apply List.ext_getElem
      · simp
      · intro i h1 h2
        simp at h1 h2
        simp
        congr 1
        omega
    have hr3 : (upd H3 ro (HO.lst (((List.range l.length).map fun j => topR l t ms lo (j + 1)).map V.int).reverse)) ro = some (.lst (((List.range l.length).map fun j => topR l t ms lo (l.length - j)).map V.int)) := by rw [upd_same, er]
    have s4 := sm.trans s3
    generalize upd H3 ro (HO.lst (((List.range l.length).map fun j => topR l t ms lo (j + 1)).map V.int).reverse) = H4 at *
    refine ⟨_, rfl, ro, _, rfl, .inl (SqL.of hr3), _, _, rfl, (by walk_at "len"), ?_⟩
    have en2 : (((((List.range l.length).map fun j => topR l t ms lo (l.length - j)).map V.int).length : Int) - 1).toNat = l.length - 1 := by simp
    rw [en2]
    refine for_range (lo := 1) (n := l.length - 1) (fun i σ H' => ∃ (x6 : Option V) (gs : List Int), σ = [some (S l), some (S t), some (.ref a), some (.ref tp), some (.int (topR l t ms lo l.length)), some (.ref ro), x6] ∧ Same H H' ∧ H' tp = some (.lst ((dps 0 t).map V.int)) ∧ H' ro = some (.lst (gs.map V.int)) ∧ gs.length = l.length ∧ (∀ p, p ≤ i → p < l.length → gs[p]? = some (lvl l t ms lo p)) ∧ (∀ p, i < p → p < l.length → gs[p]? = some (topR l t ms lo (l.length - p))))
      ⟨_, _, rfl, s4, htp3, hr3, by simp, fun p h1 h2 => ?_, fun p h1 h2 => ?_⟩ ?_ ?_
    · have : p = 0 := by omega
      subst this
      rw [List.getElem?_map, List.getElem?_range h2]; rfl
    · rw [List.getElem?_map, List.getElem?_range h2]; rfl
    · rintro i σ H5 hi ⟨x6, gs, rfl, sm, htp, hg, hgl, g1, g2⟩
      have e1 : (1 : Int) + (i : Int) = ((i + 1 : Nat) : Int) := by omega
      rw [e1]
      have eD : atI ((dps 0 t).map V.int) ((i + 1 : Nat) : Int) = some (.int (Dp t (i + 1))) := atI_nat (by rw [List.getElem?_map, dps_get 0 t (i + 1) (by omega)]; rfl)
      have eP : atI (gs.map V.int) ((i : Nat) : Int) = some (.int (lvl l t ms lo i)) := atI_nat (by rw [List.getElem?_map, g1 i (Nat.le_refl _) (by omega)]; rfl)
      have eL : lvl l t ms lo (i + 1) = if 1 < Dp t (i + 1) then lvl l t ms lo i else topR l t ms lo (l.length - (i + 1)) := rfl
      refine ⟨_, rfl, _, rfl, tp, _, _, _, rfl, rfl, SqL.of htp, eD, _, _, rfl, rfl, _, rfl, ?_⟩
      by_cases h : 1 < Dp t (i + 1)
      · rw [if_pos h] at eL
        refine iteD h ⟨_, rfl, _, rfl, _, _, rfl, rfl, ro, _, _, _, rfl, rfl, SqL.of hg, (by rw [show ((i + 1 : Nat) : Int) - 1 = ((i : Nat) : Int) by omega]; exact eP), ?_⟩
        refine ⟨_, rfl, _, rfl, ro, _, _, i + 1, rfl, rfl, hg, ixN_nat (by rw [List.length_map]; omega), _, gs.set (i + 1) (lvl l t ms lo i), rfl, sm.mut hro, ?_, ?_, by rw [List.length_set]; exact hgl, fun p h1 h2 => ?_, fun p h1 h2 => ?_⟩
        · rw [upd_ne ntr]; exact htp
        · rw [upd_same, List.map_set]
        · by_cases e : p = i + 1
          · subst e; rw [List.getElem?_set_self (by omega), eL]
          · rw [List.getElem?_set_ne (by omega)]; exact g1 p (by omega) h2
        · rw [List.getElem?_set_ne (by omega)]; exact g2 p (by omega) h2
      · rw [if_neg h] at eL
        refine iteDn h ⟨_, gs, rfl, sm, htp, hg, hgl, fun p h1 h2 => ?_, fun p h1 h2 => g2 p (by omega) h2⟩
        by_cases e : p = i + 1
        · subst e; rw [eL]; exact g2 _ (by omega) h2
        · exact g1 p (by omega) h2
    · rintro σ H5 ⟨x6, gs, rfl, sm, htp, hg, hgl, g1, g2⟩
      exact ⟨_, rfl, q _ ro gs lo sm hro hg hgl hlo' fun p hp => g1 p (by omega) hp⟩
theorem lc_tupY {K : PySem.W.Frag} {te : TE} {vs : List Nat} {σ : L2.St} {H1 : Hp} {D : Addr} {Qd : Hp → Prop} {xs : List V} {a : Addr} {j : Nat} (F : V → V) (hD : H1 D = none) (hn : xs.length ≤ 100000) (hl : SqT K H1 a xs) (hw : ∀ x, wipe ((wipe σ vs).set j (some x)) vs = wipe σ vs)
    (he : ∀ c H', c ∈ xs → Same H1 H' → ∀ Q : VK, (∀ H4, Same H' H4 → Q (F c) H4) → te ((wipe σ vs).set j (some c)) H' Q)
    (hd : ∀ H, Same H1 H → H D = some (.lst (xs.map F)) → Qd H) : CompOk (Itt K a) (gName j) tYes te vs σ H1 D Qd := by
  refine lc_pure (walk_tup (K := K) (a := a) (xs := xs)) (fun i => F (xs.getD i .non)) hD hn (fun H s => s.seqT hl) (fun i H x H' y => by rw [y.1]; exact Same.refl _) (fun i x H H' hi s y s' Q R q => ?_) (fun H s e => hd H s ?_)
  · obtain ⟨rfl, hx⟩ := y
    have e : xs.getD i .non = x := by rw [List.getD_eq_getElem?_getD, hx]; rfl
    refine ⟨hw _, ?_⟩
    show (if true = true then te ((wipe σ vs).set j (some x)) H' Q else R H')
    rw [if_pos rfl]
    refine he x H' (List.mem_of_getElem? hx) s' Q fun H4 s4 => ?_
    have := q H4 s4
    rw [e] at this
    exact this
  · rw [rangeMapN] at e
    exact e
def isI : V → Bool
  | .int _ => true
  | _ => false
/-- an item that is neither list nor tuple -/
def Item (v : V) : Prop := (∃ i, v = .int i) ∨ (∃ b, v = .bl b) ∨ (∃ s, v = .str s) ∨ v = .non
/-- b: whether it is a pair of whole numbers -/
def PrB (H : Hp) (v : V) (b : Bool) : Prop := (∃ a ys, v = .ref a ∧ H a = some (.tup ys) ∧ (∀ y ∈ ys, Item y) ∧ ys.length ≤ 1000 ∧ b = (decide (ys.length = 2) && ys.all isI)) ∨
  (((∃ a ys, v = .ref a ∧ H a = some (.lst ys)) ∨ ∃ i, v = .int i) ∧ b = false)
theorem PrB.keep {H H' : Hp} {v : V} {b : Bool} (h : PrB H v b) (s : Same H H') : PrB H' v b := by
  rcases h with ⟨a, ys, e, h, k⟩ | ⟨⟨a, ys, e, h⟩ | h, k⟩
  · exact .inl ⟨a, ys, e, s _ _ h, k⟩
  · exact .inr ⟨.inl ⟨a, ys, e, s _ _ h⟩, k⟩
  · exact .inr ⟨.inr h, k⟩
def spIsPrice (T : Txt K mg) : Sp := fun vs H Q _ => ∃ v b, vs = [v] ∧ PrB H v b ∧ ∀ H', Same H H' → Q (.bl b) H'
theorem okIsPrice (T : Txt K mg) : FnOk P w K mg base CX0 1 T.f_is_price.a T.f_is_price.fd ["thing"] (spIsPrice T) := by
  refine T.f_is_price.F.ok scIsPrice (fun vs H Q E h => ?_) (fun cdv A outer s H vs Q E hr h => ?_)
  · obtain ⟨v, b, rfl, _⟩ := h
    rfl
  · obtain ⟨v, b, rfl, h, q⟩ := h
    refine ⟨_, (pss_cons (ps_if (PW.pt (pw_or (pt_not (pt_val (pe_callB call_isi (by rfl) T.n_isinstance (by decide +kernel) (pa_cons (pv 0) (pa_cons (pe_bltn (v := .ty "tuple") (by rfl) T.n_tuple (by decide +kernel) rfl) pa_nil))))) (pw_or1 (pt_cmpR op_ne (pe_callB call_len_seq (by rfl) T.n_len PySem.boot_len (pa_cons (pv 0) pa_nil)) pe_int (nomark _))))) (pss_one (ps_ret pe_bl))
      pss_nil)
      (pss_one (ps_ret (pe_callB (cr_all rfl) (by rfl) T.n_all (by decide +kernel) (pa_cons (pe_lc (own := [("one", 1)]) rfl scIsPrice.nd (pi_tup (pv 0)) (blkOk_by (own := [("one", 1)]) (N := ["thing", "one"]) (sc := defScope sIsPrice) (by decide +kernel)) (fun _ _ _ _ _ => (pg_name (i := 1) scIsPrice.nd rfl (by first | exact Or.inl rfl | exact Or.inr rfl))) (fun _ _ _ _ _ => pts_nil) (fun _ _ _ _ _ => (pe_and (pe_callB (r := rIsi K) call_isi (by rfl) T.n_isinstance (by decide +kernel) (pa_cons (pv 1) (pa_cons (pe_bltn (v := .ty "int") (by rfl) T.n_int (by decide +kernel) rfl) pa_nil))) (pe_one (pe_not (pe_callB (r := rIsi K) call_isi (by rfl) T.n_isinstance (by decide +kernel) (pa_cons (pv 1) (pa_cons (pe_bltn (v := .ty "bool") (by rfl) T.n_bool (by decide +kernel) rfl) pa_nil)))))))) pa_nil))))), ?_⟩
    rcases h with ⟨a, ys, rfl, h, hi, hl, rfl⟩ | ⟨hn, rfl⟩
    · have qb : ∀ b H', Same H H' → (decide (ys.length = 2) && ys.all isI) = b → Q (.bl b) H' := fun b H' s e => e ▸ q H' s
      refine ⟨_, rfl, _, _, _, _, true, rfl, .ty "tuple", .base (.tup h), kit_ty (by decide +kernel), _, rfl, iteF ?_⟩
      refine ⟨_, rfl, a, ys, rfl, .inr (SqT.of h), rfl, _, rfl, ?_⟩
      rw [d_int]
      by_cases h2 : ys.length = 2
      · refine iteNS (show ((ys.length : Nat) : Int) = 2 by omega) ?_
        refine ⟨_, rfl, a, rfl, ⟨_, SqT.of h⟩, fun D hD => lc_tupY (fun y => .bl (isI y)) hD (by omega) (SqT.of h) (fun _ => rfl) (fun c H' hc s' Q q => ?_) fun H2 s2 e2 => ?_⟩
        · rcases hi c hc with ⟨i, rfl⟩ | ⟨b, rfl⟩ | ⟨x, rfl⟩ | rfl
          · exact ⟨_, rfl, _, _, _, _, true, rfl, .ty "int", .base (.int _), kit_ty (by decide +kernel), _, rfl, iteT ⟨_, rfl, _, _, _, _, false, rfl, .ty "bool", .base (.int _), kit_ty (by decide +kernel), _, rfl, q _ (Same.refl _)⟩⟩
          · exact ⟨_, rfl, _, _, _, _, true, rfl, .ty "int", .base (.bl _), kit_ty (by decide +kernel), _, rfl, iteT ⟨_, rfl, _, _, _, _, true, rfl, .ty "bool", .base (.bl _), kit_ty (by decide +kernel), _, rfl, q _ (Same.refl _)⟩⟩
          · exact ⟨_, rfl, _, _, _, _, false, rfl, .ty "int", .base (.str _), kit_ty (by decide +kernel), _, rfl, iteF (q _ (Same.refl _))⟩
          · exact ⟨_, rfl, _, _, _, _, false, rfl, .ty "int", .base .non, kit_ty (by decide +kernel), _, rfl, iteF (q _ (Same.refl _))⟩
        · refine ⟨D, ys.map isI, rfl, SqL.of (by rw [e2, List.map_map]; rfl), qb _ _ s2 ?_⟩
          rw [all_map_bl, decide_eq_true h2, Bool.true_and]
      · refine iteNT (show ¬ ((ys.length : Nat) : Int) = 2 by omega) (qb _ _ (Same.refl _) ?_)
        rw [decide_eq_false h2, Bool.false_and]
    · have q := q H (Same.refl _)
      rcases hn with ⟨a, ys, rfl, h⟩ | ⟨i, rfl⟩
      · exact ⟨_, rfl, _, _, _, _, false, rfl, .ty "tuple", .base (.lst h), kit_ty (by decide +kernel), _, rfl, iteT q⟩
      · exact ⟨_, rfl, _, _, _, _, false, rfl, .ty "tuple", .base (.int _), kit_ty (by decide +kernel), _, rfl, iteT q⟩
end
end HT

set_option Elab.async false
set_option linter.all false
set_option maxRecDepth 100000
set_option maxHeartbeats 4000000
namespace HT
open PySem PySem.Spec PyProof.Rows L2 BR
local macro_rules | `(tactic| walk_at "sq") => `(tactic| first | exact SqL.of (by assumption) | exact SqL.of upd_same | exact SqT.of (by assumption) | exact SqT.of upd_same | assumption | exact Same.seq (by assumption) (by assumption) | exact Same.seq (Same.trans (by assumption) (by assumption)) (by assumption))
local macro_rules | `(tactic| walk_at "len") => `(tactic| (simp only [List.length_append, List.length_map, List.length_cons, List.length_nil, List.length_set, List.length_replicate, List.length_take, List.length_drop, List.length_reverse, List.length_range, dpi_len, dps_len, len_S]; omega))
local macro_rules | `(tactic| walk_at "g1") => `(tactic| first
  | refine ⟨_, rfl, ?_⟩
  | refine ⟨rfl, ?_⟩
  | refine ⟨_, _, rfl, rfl, @id.{0} _ (by first | decide | omega | exact ⟨by decide, by decide⟩ | exact .inr ⟨by decide, by decide⟩ | (show (0 : Int) < _; decide)), ?_⟩
  | refine ⟨_, _, rfl, rfl, ?_⟩
  | refine ⟨_, _, _, _, rfl, rfl, (by walk_at "sq"), (by first | exact atI_last _ _ | (with_reducible exact atI_nat (by assumption))), ?_⟩
  | refine ⟨.inl ⟨rfl, _, (by walk_at "sq")⟩, ?_⟩
  | refine ⟨_, _, rfl, (by first | exact .inl (by walk_at "sq") | exact .inr (by walk_at "sq")), ?_⟩
  | refine ⟨_, rfl, (by first | exact sz5 (by walk_at "len") | exact szS (by omega)), ?_⟩
  | refine ⟨_, _, _, rfl, rfl, (by assumption), sz5l (by walk_at "len"), ?_⟩)
local macro_rules | `(tactic| walk_at "go") => `(tactic| repeat walk_at "g1")
local macro_rules | `(tactic| walk_at "nxt") => `(tactic| (show tSeq Ends.nx _ _ _ _; refine nx_in ?_))

section
variable {P : Program} {w : World} {K : PySem.W.Frag} {mg : Str → Option Value} {base : Heap}
abbrev fdCheap (t : List Nat) (b : Addr) : List (Str × V) := putF "levels" (.ref b) (putF "text" (S t) [])
theorem ck_text (t : List Nat) (b : Addr) : (fdCheap t b).lookup ("text" : Str) = some (S t) := by
  rw [lookup_putF, if_neg (by decide +kernel), lookup_putF, if_pos rfl]
theorem ck_levels (t : List Nat) (b : Addr) : (fdCheap t b).lookup ("levels" : Str) = some (.ref b) := by
  rw [lookup_putF, if_pos rfl]
theorem ck_shows (t : List Nat) (b : Addr) : (fdCheap t b).lookup ("shows" : Str) = none := by
  rw [lookup_putF, if_neg (by decide +kernel), lookup_putF, if_neg (by decide +kernel)]; rfl
def spInitCheapest (T : Txt K mg) : Sp := fun vs H Q _ => ∃ (p dx : Addr) (t : List Nat) (a : Addr) (ns : List Int), vs = [.ref p, S t, .ref a] ∧ H p = some (.ins T.c_Cheapest dx []) ∧ H a = some (.lst (ns.map V.int)) ∧
  ∀ b, b ≠ p → H b = none → Q .non (upd (upd (upd H p (.ins T.c_Cheapest dx (putF "text" (S t) []))) b (.lst (ns.map V.int))) p (.ins T.c_Cheapest dx (fdCheap t b)))
theorem okInitCheapest (T : Txt K mg) : FnOk P w K mg base CX0 1 T.i_Cheapest.a T.i_Cheapest.fd ["self", "text", "levels"] (spInitCheapest T) := by
  refine T.i_Cheapest.F.ok scInitCheapest (fun vs H Q E h => ?_) (fun cdv A outer s H vs Q E hr h => ?_)
  · obtain ⟨p, dx, t, a, ns, rfl, _⟩ := h
    rfl
  · obtain ⟨p, dx, t, a, ns, rfl, hp, ha, q⟩ := h
    refine ⟨_, (pss_cons (ps_fld (pv 0) (pv 1) rfl)
      (pss_one (ps_fld (pv 0) (pe_callTy call_list_of (by rfl) T.n_list (by decide +kernel) (pa_cons (pv 2) pa_nil)) rfl))), ?_⟩
    have hap : a ≠ p := fun h => by rw [h, hp] at ha; cases ha
    refine ⟨_, rfl, _, rfl, p, T.c_Cheapest, dx, _, rfl, hp, T.o_Cheapest.cl, T.na_Cheapest_text, by decide, ?_⟩
    refine ⟨_, rfl, a, _, rfl, .inl (SqL.of (by rw [upd_ne hap]; exact ha)), fun b nb => ?_⟩
    have hbp : b ≠ p := fun h => by rw [h, upd_same] at nb; cases nb
    refine ⟨_, rfl, p, T.c_Cheapest, dx, putF "text" (S t) [], rfl, by rw [upd_ne hbp.symm]; exact upd_same, T.o_Cheapest.cl, T.na_Cheapest_levels, (show 1 < 1000 by decide), q b hbp ?_⟩
    rwa [upd_ne hbp] at nb
/-- a value that is no list -/
def NotLst (H : Hp) (v : V) : Prop := v = .non ∨ (∃ x, v = .str x) ∨ ∃ a ys, v = .ref a ∧ H a = some (.tup ys)
theorem NotLst.keep {H H' : Hp} {v : V} (h : NotLst H v) (s : Same H H') : NotLst H' v := by
  rcases h with h | h | ⟨a, ys, e, h⟩
  · exact .inl h
  · exact .inr (.inl h)
  · exact .inr (.inr ⟨a, ys, e, s _ _ h⟩)
def spCheapest (T : Txt K mg) : Sp := fun vs H Q E => ∃ v pw, vs = [v, pw] ∧ Asks T v H E fun l =>
  (∃ a L, pw = .ref a ∧ H a = some (.lst (prV L)) ∧ PrsAt H L ∧ L.length = l.count 63 ∧ ∀ H' x dx b t lv, H' x = some (.ins T.c_Cheapest dx (fdCheap t b)) → H' b = some (.lst (lv.map V.int)) → lvOk l t (mores l (difs L)) lv = true → IsRow t → Same H H' → H x = none → H b = none → x ≠ b → Q (.ref x) H') ∨
  ((NotLst H pw ∨ ∃ a, ∃ xs : List (V × Bool), pw = .ref a ∧ H a = some (.lst (xs.map (·.1))) ∧ xs.length ≤ 1000 ∧ (∀ e ∈ xs, PrB H e.1 e.2) ∧ (xs.length ≠ l.count 63 ∨ xs.all (·.2) = false)) ∧ ∀ H', Same H H' → E (.ref T.c_BadPrices) none H')
theorem okCheapest (T : Txt K mg) : FnOk P w K mg base (L2N.CX P w) 6 T.f_cheapest.a T.f_cheapest.fd ["row", "prices"] (spCheapest T) := by
  refine T.f_cheapest.F.okXN scCheapest (fun vs H Q E h => ?_) (fun cdv A outer s H vs Q E hr h => ?_)
  · obtain ⟨v, pw, rfl, _⟩ := h
    rfl
  · obtain ⟨v, pw, rfl, h⟩ := h
    refine ⟨_, (pss_cons (ps_expr (pe_call (okAskedFilling T) (hr.mono (by decide)) (by rfl) T.f_asked_filling.g T.f_asked_filling.F.kp T.f_asked_filling.b .nil (L2N.passes_call (L2N.takes_of rfl rfl rfl rfl) (fun _ _ _ _ h => h)) (pa_cons (pv 0) pa_nil)))
      (pss_cons (ps_if (PW.pt (pw_or (pt_not (pt_val (pe_callB call_isi (by rfl) T.n_isinstance (by decide +kernel) (pa_cons (pv 1) (pa_cons (pe_bltn (v := .ty "list") (by rfl) T.n_list (by decide +kernel) rfl) pa_nil))))) (pw_or (pt_cmpR op_ne (pe_callB call_len_seq (by rfl) T.n_len PySem.boot_len (pa_cons (pv 1) pa_nil)) (pe_bm PySem.F.plainAttrs_str PySem.F.slot_str_count PySem.F.type_str_count mt_count (pv 0) (pa_cons pe_str pa_nil)) (nomark _)) (pw_or1 (pt_not (pt_val (pe_callB (cr_all rfl) (by rfl) T.n_all (by decide +kernel) (pa_cons (pe_lc (own := [("price", 2)]) rfl scCheapest.nd (pi_list (pv 1)) (blkOk_by (own := [("price", 2)]) (N := ["row", "prices", "price", "mores", "text"]) (sc := defScope sCheapest) (by decide +kernel)) (fun _ _ _ _ _ => (pg_name (i := 2) scCheapest.nd rfl (by first | exact Or.inl rfl | exact Or.inr rfl))) (fun _ _ _ _ _ => pts_nil) (fun _ _ _ _ _ => (pe_call (okIsPrice T) (hr.mono (by decide)) (by rfl) T.f_is_price.g T.f_is_price.F.kp T.f_is_price.b .nil pass0 (pa_cons (pv 2) pa_nil)))) pa_nil)))))))) (pss_one (L2N.ps_raise rfl (L2N.takes_of rfl rfl rfl rfl) (L2N.pmk_own PySem.F.excBase_ValueError T.x_BadPrices T.g_BadPrices T.k_BadPrices (raises_own T.b_BadPrices T.t_BadPrices) (by rfl))))
      pss_nil)
      (pss_cons (ps_set (i := 3) scCheapest.nd rfl (by first | exact Or.inl rfl | exact Or.inr rfl) (pe_call (okMoresOf T) (hr.mono (by decide)) (by rfl) T.f_mores_of.g T.f_mores_of.F.kp T.f_mores_of.b .nil pass0 (pa_cons (pv 0) (pa_cons (pv 1) pa_nil))))
      (pss_cons (ps_set (i := 4) scCheapest.nd rfl (by first | exact Or.inl rfl | exact Or.inr rfl) (pe_call (okOpened T) (hr.mono (by decide)) (by rfl) T.f_opened.g T.f_opened.F.kp T.f_opened.b .nil pass0 (pa_cons (pv 0) (pa_cons (pv 3) pa_nil))))
      (pss_one (ps_ret (pe_make T.mk_Cheapest (okInitCheapest T) (hr.mono (by decide)) (by rfl) T.g_Cheapest T.i_Cheapest.b .nil pass0 (pa_cons (pv 4) (pa_cons (pe_call (okLevelsOf T) (hr.mono (by decide)) (by rfl) T.f_levels_of.g T.f_levels_of.F.kp T.f_levels_of.b .nil pass0 (pa_cons (pv 0) (pa_cons (pv 4) (pa_cons (pv 3) pa_nil)))) pa_nil))))))))), ?_⟩
    rcases h with ⟨l, rfl, hl8, q1, q2, q3⟩ | ⟨hn, q⟩
    · refine ⟨_, rfl, S l, rfl, .inl ⟨l, rfl, hl8, q1, q2, fun hrw hc H1 s1 => ?_⟩⟩
      have e63 : (Str.ofString "?") = (⟨#[63]⟩ : Str) := by decide +kernel
      rcases q3 hrw hc with ⟨a, L, rfl, ha, hL, hn, q⟩ | ⟨hb, q⟩
      · refine ⟨_, rfl, _, _, _, _, true, rfl, .ty "list", .base (.lst (s1 _ _ ha)), kit_ty (by decide +kernel), _, rfl, iteF ?_⟩
        refine ⟨_, rfl, a, _, rfl, .inl (SqL.of (s1 _ _ ha)), _, rfl, rfl, _, _, rfl, rfl, rfl, _, rfl, ?_⟩
        rw [e63, count_S, d_int]
        have hPl : (prV L).length = l.count 63 := by unfold prV; rw [List.length_map]; exact hn
        refine iteNS (show (((prV L).length : Nat) : Int) = ((l.count 63 : Nat) : Int) by omega) ?_
        have hcl : l.count 63 ≤ l.length := List.count_le_length
        refine ⟨_, rfl, a, rfl, ⟨_, SqL.of (s1 _ _ ha)⟩, fun D hD => lc_lstY (f := fun z : L2.Pr => V.ref z.1) (xs := L) (fun _ => .bl true) hD (by omega) (SqL.of (s1 _ _ ha)) (fun _ => rfl) (fun z H' hz s' Q q => ?_) fun H2 s2 e2 => ?_⟩
        · exact ⟨_, rfl, .ref z.1, true, rfl, .inl ⟨z.1, _, rfl, (s1.trans s') _ _ (hL z hz), (fun y hy => by
            rcases List.mem_cons.mp hy with e | hy
            · exact .inl ⟨_, e⟩
            · exact .inl ⟨_, List.mem_singleton.mp hy⟩), by simp, rfl⟩, fun H' s => q _ s⟩
        · refine ⟨D, L.map fun _ => true, rfl, SqL.of (by rw [e2, List.map_map]; rfl), _, rfl, ?_⟩
          rw [show (L.map fun _ => true).all id = true by simp]
          refine iteF ?_
          have s02 := s1.trans s2
          refine ⟨_, rfl, _, rfl, l, a, L, rfl, by omega, SqL.of (s02 _ _ ha), (fun z hz => s02 _ _ (hL z hz)), hn, fun H3 mp s3 nmp hmp => ?_⟩
          have s03 := s02.trans s3
          obtain ⟨ms, hms⟩ : ∃ ms, ms = mores l (difs L) := ⟨_, rfl⟩
          have hml : ms.length = l.length := by rw [hms]; exact mores_len _ _
          rw [← hms] at hmp q
          refine ⟨_, rfl, _, rfl, l, mp, ms, rfl, by omega, hrw, hc, SqL.of hmp, hml, fun H4 t s4 gr => ?_⟩
          have htl : t.length = l.length := gr.len
          have s04 := s03.trans s4
          refine ⟨_, rfl, _, rfl, _, rfl, _, rfl, l, t, mp, ms, rfl, by omega, htl, SqL.of (s4 _ _ hmp), hml, fun H5 lp lv lo s5 nlp hlp hlen hlo hlv => ?_⟩
          have s05 := s04.trans s5
          obtain ⟨f, hf⟩ := (can_fil _ _).mp hc
          obtain ⟨f1, f2, f3⟩ := (Fil_iff l 0 f hrw).mp hf
          have hfil := gr.filling f1 f2 f3
          have hok := gr.shown hfil hlo hlen hlv
          refine fun x dx nx ndx ne => ?_
          have sx : Same H (upd (upd H5 dx (.own x)) x (.ins T.c_Cheapest dx [])) := s05.trans ((Same.new ndx).trans (Same.new (by rw [upd_ne ne.symm]; exact nx)))
          have hx0 : H x = none := s05.free nx
          have lx : lp ≠ x := fun h => by rw [h, nx] at hlp; cases hlp
          have ld : lp ≠ dx := fun h => by rw [h, ndx] at hlp; cases hlp
          refine ⟨x, dx, t, lp, lv, rfl, upd_same, by rw [upd_ne lx, upd_ne ld]; exact hlp, fun b bx nb => ?_⟩
          have hb0 : H b = none := sx.free nb
          refine ⟨rfl, q _ x dx b t lv upd_same (by rw [upd_ne bx]; exact upd_same) hok gr.brs.row (((sx.mut hx0).mut hb0).mut hx0) hx0 hb0 bx.symm⟩
      · rcases hb with hb | ⟨a, xs, rfl, ha, hl, hp, hbad⟩
        · have hb := hb.keep s1
          rcases hb with rfl | ⟨x, rfl⟩ | ⟨a, ys, rfl, h⟩
          · exact ⟨_, rfl, _, _, _, _, false, rfl, .ty "list", .base .non, kit_ty (by decide +kernel), _, rfl, iteT (q _ s1)⟩
          · exact ⟨_, rfl, _, _, _, _, false, rfl, .ty "list", .base (.str _), kit_ty (by decide +kernel), _, rfl, iteT (q _ s1)⟩
          · exact ⟨_, rfl, _, _, _, _, false, rfl, .ty "list", .base (.tup h), kit_ty (by decide +kernel), _, rfl, iteT (q _ s1)⟩
        · refine ⟨_, rfl, _, _, _, _, true, rfl, .ty "list", .base (.lst (s1 _ _ ha)), kit_ty (by decide +kernel), _, rfl, iteF ?_⟩
          refine ⟨_, rfl, a, _, rfl, .inl (SqL.of (s1 _ _ ha)), _, rfl, rfl, _, _, rfl, rfl, rfl, _, rfl, ?_⟩
          rw [e63, count_S, d_int, List.length_map]
          by_cases hlen : xs.length = l.count 63
          · refine iteNS (show ((xs.length : Nat) : Int) = ((l.count 63 : Nat) : Int) by omega) ?_
            have hbad := hbad.resolve_left (fun h => h hlen)
            haveI : Inhabited (V × Bool) := ⟨(.non, false)⟩
            refine ⟨_, rfl, a, rfl, ⟨_, SqL.of (s1 _ _ ha)⟩, fun D hD => lc_lstY (f := fun z : V × Bool => z.1) (xs := xs) (fun z => .bl z.2) hD (by omega) (SqL.of (s1 _ _ ha)) (fun _ => rfl) (fun z H' hz s' Q q => ?_) fun H2 s2 e2 => ?_⟩
            · exact ⟨_, rfl, z.1, z.2, rfl, (hp z hz).keep (s1.trans s'), fun H' s => q _ s⟩
            · refine ⟨D, xs.map (·.2), rfl, SqL.of (by rw [e2, List.map_map]; rfl), _, rfl, ?_⟩
              rw [all_map_bl, hbad]
              exact iteT (q _ (s1.trans s2))
          · exact iteNT (show ¬ ((xs.length : Nat) : Int) = ((l.count 63 : Nat) : Int) by omega) (q _ s1)
    · exact ⟨_, rfl, v, rfl, .inr ⟨hn, q⟩⟩
end
end HT

set_option Elab.async false
set_option linter.all false
set_option maxRecDepth 100000
set_option maxHeartbeats 4000000
namespace HT
open PySem PySem.Spec PyProof.Rows L2 BR
local macro_rules | `(tactic| walk_at "sq") => `(tactic| first | exact SqL.of (by assumption) | exact SqL.of upd_same | exact SqT.of (by assumption) | exact SqT.of upd_same | assumption | exact Same.seq (by assumption) (by assumption) | exact Same.seq (Same.trans (by assumption) (by assumption)) (by assumption))
local macro_rules | `(tactic| walk_at "len") => `(tactic| (simp only [List.length_append, List.length_map, List.length_cons, List.length_nil, List.length_set, List.length_replicate, List.length_take, List.length_drop, List.length_reverse, List.length_range, dpi_len, dps_len, len_S]; omega))
local macro_rules | `(tactic| walk_at "g1") => `(tactic| first
  | refine ⟨_, rfl, ?_⟩
  | refine ⟨rfl, ?_⟩
  | refine ⟨_, _, rfl, rfl, @id.{0} _ (by first | decide | omega | exact ⟨by decide, by decide⟩ | exact .inr ⟨by decide, by decide⟩ | (show (0 : Int) < _; decide)), ?_⟩
  | refine ⟨_, _, rfl, rfl, ?_⟩
  | refine ⟨_, _, _, _, rfl, rfl, (by walk_at "sq"), (by first | exact atI_last _ _ | (with_reducible exact atI_nat (by assumption))), ?_⟩
  | refine ⟨.inl ⟨rfl, _, (by walk_at "sq")⟩, ?_⟩
  | refine ⟨_, _, rfl, (by first | exact .inl (by walk_at "sq") | exact .inr (by walk_at "sq")), ?_⟩
  | refine ⟨_, rfl, (by first | exact sz5 (by walk_at "len") | exact szS (by omega)), ?_⟩
  | refine ⟨_, _, _, rfl, rfl, (by assumption), sz5l (by walk_at "len"), ?_⟩)
local macro_rules | `(tactic| walk_at "go") => `(tactic| repeat walk_at "g1")
local macro_rules | `(tactic| walk_at "nxt") => `(tactic| (show tSeq Ends.nx _ _ _ _; refine nx_in ?_))

/-! ### a call of a list's item -/
theorem arm_Sub (v i : Expr) (sp : Pos) (args : List Expr) (keywords : List Keyword) (pos : Pos) (env : Env) : eval (.Call (.Subscript v i sp) args keywords pos) env = (do
    callWith pos (← eval (.Subscript v i sp) env) [] (backTo pos (starEach args env)) (backToKw pos (keywordEach keywords env))) := rfl
def HeldY (P : Program) (w : World) (K : PySem.W.Frag) (mg : Str → Option Value) (base : Heap) (CX : CXT) (k : Nat) (f : Addr) (sp : Sp) : Prop :=
  ∃ (j : Nat) (fd : FuncData) (ps : List Str), j ≤ k ∧ FnOk P w K mg base CX j f fd ps sp ∧ PySem.W.keepIn K (.ref f) = true ∧ Binds K fd ps []
def tCallE (tf : TE) (S : Addr → Sp → Prop) (E : XK) (t : TA) : TE := fun σ H Q => tf σ H fun x H1 => ∃ f sp, x = .ref f ∧ S f sp ∧ t σ H1 fun vs H2 => sp vs H2 Q E
theorem pe_callSub {X : Cx} {CX : CXT} {k : Nat} {E : XK} {v i e : Expr} {p pos : Pos} {es : List Expr} {tf : TE} {t : TA} {S : Addr → Sp → Prop} (hf : PE X (.Subscript v i p) tf) (A : ∀ f sp, S f sp → HeldY X.prog X.w X.K X.mg X.base CX k f sp) (hr : Room k X.A) (hx : Passes CX X E) (ha : PA X (e :: es) t)
    (he : starEach (e :: es) X.env = (false, eval e X.env) :: starEach es X.env := by rfl) (hpl : (backTo pos (starEach es X.env)).any (·.1) = false := by rfl) : PE X (.Call (.Subscript v i p) (e :: es) [] pos) (tCallE tf S E t) := by
  refine ⟨fun pins s σ H Q I h => ?_⟩
  rw [arm_Sub]
  refine wpAny_bind (thn (hf.run pins s σ H _ I h) fun u s1 ⟨x, H1, I1, r1, f, sp, ex, hS, q⟩ => ?_)
  subst ex
  obtain rfl : u = Value.ref f := r1
  obtain ⟨j, fd, ps, hj, F, hk, hb⟩ := A f sp hS
  refine PySem.W.callWith_K (h₀ := X.base) I1.ok.mod.kin hk (thn (ha.run pos pins s1 σ H1 _ I1 q) fun us s2 ⟨vs, H2, I2, r, q2⟩ => ⟨I2.kIn, ?_⟩) he hpl
  have q3 : sp (vs ++ []) H2 Q E := by rw [List.append_nil]; exact q2
  exact run_fn F (hr.mono hj) hb .nil hx I2 r q3
theorem at_mem (xs : List V) (z : Int) {n : Int} (hn : n = xs.length) (h0 : 0 < n) : ∃ v, v ∈ xs ∧ atI xs (z % n) = some v := by
  have h1 := Int.emod_nonneg z (show n ≠ 0 by omega)
  have h2 := Int.emod_lt_of_pos z h0
  obtain ⟨k, hk⟩ : ∃ k : Nat, z % n = (k : Int) := ⟨(z % n).toNat, by rw [Int.toNat_of_nonneg h1]⟩
  have hkl : k < xs.length := by omega
  refine ⟨xs[k], List.getElem_mem hkl, ?_⟩
  rw [hk]
  exact atI_nat (List.getElem?_eq_getElem hkl)
section
variable {P : Program} {w : World} {K : PySem.W.Frag} {mg : Str → Option Value} {base : Heap}
def Doors (T : Txt K mg) : Addr → Sp → Prop := fun f sp => (f = T.f_filled.a ∧ sp = spFilled T) ∨ (f = T.f_first.a ∧ sp = spFirst T) ∨ (f = T.f_last.a ∧ sp = spLast T) ∨ (f = T.f_settled.a ∧ sp = spSettled T) ∨ (f = T.f_how_many.a ∧ sp = spHowMany T) ∨
  (f = T.f_depths.a ∧ sp = spDepths T) ∨ (f = T.f_partners.a ∧ sp = spPartners T) ∨ (f = T.f_told.a ∧ sp = spTold T) ∨ (f = T.f_number_of.a ∧ sp = spNumberOf T) ∨ (f = T.f_cheapest.a ∧ sp = spCheapest T)
theorem doorsOk (T : Txt K mg) : ∀ f sp, Doors T f sp → HeldY P w K mg base (L2N.CX P w) 7 f sp := by
  rintro f sp (⟨rfl, rfl⟩ | ⟨rfl, rfl⟩ | ⟨rfl, rfl⟩ | ⟨rfl, rfl⟩ | ⟨rfl, rfl⟩ | ⟨rfl, rfl⟩ | ⟨rfl, rfl⟩ | ⟨rfl, rfl⟩ | ⟨rfl, rfl⟩ | ⟨rfl, rfl⟩)
  · exact ⟨_, _, _, by decide, okFilled T, T.f_filled.F.kp, T.f_filled.b⟩
  · exact ⟨_, _, _, by decide, okFirst T, T.f_first.F.kp, T.f_first.b⟩
  · exact ⟨_, _, _, by decide, okLast T, T.f_last.F.kp, T.f_last.b⟩
  · exact ⟨_, _, _, by decide, okSettled T, T.f_settled.F.kp, T.f_settled.b⟩
  · exact ⟨_, _, _, by decide, okHowMany T, T.f_how_many.F.kp, T.f_how_many.b⟩
  · exact ⟨_, _, _, by decide, okDepths T, T.f_depths.F.kp, T.f_depths.b⟩
  · exact ⟨_, _, _, by decide, okPartners T, T.f_partners.F.kp, T.f_partners.b⟩
  · exact ⟨_, _, _, by decide, okTold T, T.f_told.F.kp, T.f_told.b⟩
  · exact ⟨_, _, _, by decide, okNumberOf T, T.f_number_of.F.kp, T.f_number_of.b⟩
  · exact ⟨_, _, _, by decide, okCheapest T, T.f_cheapest.F.kp, T.f_cheapest.b⟩
/-- no row -/
def BadR (H : Hp) (v : V) : Prop := (∃ l, v = S l ∧ l.length ≤ 1000 ∧ ¬ IsRow l) ∨ v = .non ∨ (∃ i, v = .int i) ∨ (∃ a xs, v = .ref a ∧ H a = some (.lst xs)) ∨ ∃ a xs, v = .ref a ∧ H a = some (.tup xs)
theorem BadR.keep {H H' : Hp} {v : V} (h : BadR H v) (s : Same H H') : BadR H' v := by
  rcases h with h | h | h | ⟨a, xs, e, h⟩ | ⟨a, xs, e, h⟩
  · exact .inl h
  · exact .inr (.inl h)
  · exact .inr (.inr (.inl h))
  · exact .inr (.inr (.inr (.inl ⟨a, xs, e, s _ _ h⟩)))
  · exact .inr (.inr (.inr (.inr ⟨a, xs, e, s _ _ h⟩)))
theorem BadR.two {H : Hp} {v : V} (h : BadR H v) : (∃ l, v = S l ∧ l.length ≤ 1000 ∧ ¬ IsRow l) ∨ NotS K H v := by
  rcases h with h | rfl | ⟨i, rfl⟩ | ⟨a, xs, rfl, h⟩ | ⟨a, xs, rfl, h⟩
  · exact .inl h
  · exact .inr ⟨_, .base .non, kit_ty (by decide +kernel)⟩
  · exact .inr ⟨_, .base (.int _), kit_ty (by decide +kernel)⟩
  · exact .inr ⟨_, .base (.lst h), kit_ty (by decide +kernel)⟩
  · exact .inr ⟨_, .base (.tup h), kit_ty (by decide +kernel)⟩
section
variable {T : Txt K mg} {v n : V} {H : Hp} {Q : VK} {E : XK} {l : List Nat} {k : List Nat → Prop}
theorem br_asks (h : BadR H v) (e : E (.ref T.c_BadRow) none H) : Asks T v H E k := by
  rcases h.two (K := K) with ⟨l, e1, hl, hn⟩ | h
  · exact .inl ⟨l, e1, by omega, fun _ => e, fun h => absurd h hn, fun h => absurd h hn⟩
  · exact .inr ⟨h, e⟩
theorem br_filled (h : BadR H v) (e : E (.ref T.c_BadRow) none H) : spFilled T [v] H Q E := by
  rcases h.two (K := K) with ⟨l, e1, hl, hn⟩ | h
  · exact ⟨v, rfl, .inl ⟨l, e1, by omega, fun _ => e, fun h => absurd h hn⟩⟩
  · exact ⟨v, rfl, .inr ⟨h, e⟩⟩
theorem br_howMany (h : BadR H v) (e : E (.ref T.c_BadRow) none H) : spHowMany T [v] H Q E := by
  rcases h.two (K := K) with ⟨l, e1, hl, hn⟩ | h
  · exact ⟨v, rfl, .inl ⟨l, e1, by omega, fun _ => e, fun h => absurd h hn⟩⟩
  · exact ⟨v, rfl, .inr ⟨h, e⟩⟩
theorem br_depths (h : BadR H v) (e : E (.ref T.c_BadRow) none H) : spDepths T [v] H Q E := by
  rcases h.two (K := K) with ⟨l, e1, hl, hn⟩ | h
  · exact ⟨v, rfl, .inl ⟨l, e1, by omega, fun _ => e, fun h => absurd h hn, fun h => absurd h hn⟩⟩
  · exact ⟨v, rfl, .inr ⟨h, e⟩⟩
theorem br_partners (h : BadR H v) (e : E (.ref T.c_BadRow) none H) : spPartners T [v] H Q E := by
  rcases h.two (K := K) with ⟨l, e1, hl, hn⟩ | h
  · exact ⟨v, rfl, .inl ⟨l, e1, by omega, fun _ => e, fun h => absurd h hn, fun h => absurd h hn⟩⟩
  · exact ⟨v, rfl, .inr ⟨h, e⟩⟩
/-- a row that has no filling -/
def NoF (l : List Nat) : Prop := IsRow l ∧ can l 0 = false ∧ isClosed l = false ∧ l.length ≤ 1000
theorem no_asks (h : NoF l) (e : ∀ H', Same H H' → E (.ref T.c_NoFilling) none H') : Asks T (S l) H E k :=
  .inl ⟨l, rfl, by have := h.2.2.2; omega, fun hn => absurd h.1 hn, fun _ _ => e, fun _ hc => (by rw [h.2.1] at hc; cases hc)⟩
theorem no_depths (h : NoF l) (e : ∀ H', Same H H' → E (.ref T.c_NoFilling) none H') : spDepths T [S l] H Q E :=
  ⟨_, rfl, .inl ⟨l, rfl, by have := h.2.2.2; omega, fun hn => absurd h.1 hn, fun _ _ => e, fun _ hc => (by rw [h.2.2.1] at hc; cases hc)⟩⟩
theorem no_partners (h : NoF l) (e : ∀ H', Same H H' → E (.ref T.c_NoFilling) none H') : spPartners T [S l] H Q E :=
  ⟨_, rfl, .inl ⟨l, rfl, by have := h.2.2.2; omega, fun hn => absurd h.1 hn, fun _ _ => e, fun _ hc => (by rw [h.2.2.1] at hc; cases hc)⟩⟩
end
theorem lit_sq : (Str.ofString "[]") = St_ [91, 93] := by decide +kernel
theorem lit_bl : (Str.ofString "( )") = St_ [40, 32, 41] := by decide +kernel
theorem lit_nl : (Str.ofString "()\n") = St_ [40, 41, 10] := by decide +kernel
theorem lit_x : (Str.ofString "x") = St_ [120] := by decide +kernel
theorem not_row {l : List Nat} {c : Nat} (h : c ∈ l) (h1 : c ≠ 40 ∧ c ≠ 41 ∧ c ≠ 63) : ¬ IsRow l := fun hr => by
  have := hr c h
  omega
def spLawRowAsked (T : Txt K mg) : Sp := fun vs H Q E => ∃ wh mo : Int, vs = [.int wh, .int mo] ∧ ∀ H', Same H H' → E (.ref T.c_BadRow) none H'
theorem okLawRowAsked (T : Txt K mg) : FnOk P w K mg base (L2N.CX P w) 8 T.f__law_row_asked.a T.f__law_row_asked.fd ["_law_which", "_law_more"] (spLawRowAsked T) := by
  refine T.f__law_row_asked.F.okXN scLawRowAsked (fun vs H Q E h => ?_) (fun cdv A outer s H vs Q E hr h => ?_)
  · obtain ⟨wh, mo, rfl, _⟩ := h
    rfl
  · obtain ⟨wh, mo, rfl, q⟩ := h
    refine ⟨_, (pss_cons (ps_set (i := 2) scLawRowAsked.nd rfl (by first | exact Or.inl rfl | exact Or.inr rfl) (pe_ix ix_list (pe_lst (pa_cons pe_non (pa_cons pe_int (pa_cons (pe_lst (pa_cons pe_str pa_nil)) (pa_cons (pe_tup (pa_cons pe_str (pa_cons pe_str pa_nil))) (pa_cons pe_str (pa_cons pe_str (pa_cons pe_str (pa_cons (pe_op op_add_str (pe_op op_mulS pe_str (pe_op op_mod (pv 1) pe_int)) pe_str) pa_nil))))))))) (pe_op op_mod (pv 0) pe_int) (fun _ _ => rfl)))
      (pss_cons (ps_set (i := 3) scLawRowAsked.nd rfl (by first | exact Or.inl rfl | exact Or.inr rfl) (pe_op op_mod (pe_op op_fdiv (pv 0) pe_int) pe_int))
      (pss_cons (ps_if (pt_cmpR op_lt (pv 3) pe_int (nomark _)) (pss_one (ps_ret (pe_callSub (pe_ix ix_list (pe_lst (pa_cons (pe_glob (v := .ref T.f_filled.a) (by rfl) T.f_filled.g rfl) (pa_cons (pe_glob (v := .ref T.f_first.a) (by rfl) T.f_first.g rfl) (pa_cons (pe_glob (v := .ref T.f_last.a) (by rfl) T.f_last.g rfl) (pa_cons (pe_glob (v := .ref T.f_settled.a) (by rfl) T.f_settled.g rfl) (pa_cons (pe_glob (v := .ref T.f_how_many.a) (by rfl) T.f_how_many.g rfl) (pa_cons (pe_glob (v := .ref T.f_depths.a) (by rfl) T.f_depths.g rfl) (pa_cons (pe_glob (v := .ref T.f_partners.a) (by rfl) T.f_partners.g rfl) pa_nil)))))))) (pv 3) (fun _ _ => rfl)) (doorsOk T) (hr.mono (by decide)) (L2N.passes_call (L2N.takes_of rfl rfl rfl rfl) (fun _ _ _ _ h => h)) (pa_cons (pv 2) pa_nil))))
      pss_nil)
      (pss_one (ps_ret (pe_callSub (pe_ix ix_list (pe_lst (pa_cons (pe_glob (v := .ref T.f_told.a) (by rfl) T.f_told.g rfl) (pa_cons (pe_glob (v := .ref T.f_number_of.a) (by rfl) T.f_number_of.g rfl) (pa_cons (pe_glob (v := .ref T.f_cheapest.a) (by rfl) T.f_cheapest.g rfl) pa_nil)))) (pe_op op_sub (pv 3) pe_int) (fun _ _ => rfl)) (doorsOk T) (hr.mono (by decide)) (L2N.passes_call (L2N.takes_of rfl rfl rfl rfl) (fun _ _ _ _ h => h)) (pa_cons (pv 2) (pa_cons pe_non pa_nil)))))))), ?_⟩
    obtain ⟨k, hk⟩ : ∃ k : Nat, mo % 5 = (k : Int) := ⟨(mo % 5).toNat, by rw [Int.toNat_of_nonneg (Int.emod_nonneg _ (by decide))]⟩
    have hk5 : k < 5 := by have := Int.emod_lt_of_pos mo (show (0 : Int) < 5 by decide); omega
    have em : Txt.mul (Str.ofString "()") (mo % 5) ++ Str.ofString "x" = St_ ((List.replicate k [40, 41]).flatten ++ [120]) := by
      rw [hk, lit_oc, mul_S, lit_x, add_S]
    have hml : (List.replicate k [40, 41]).flatten.length = 2 * k := by simp; omega
    refine ⟨sz5 (by simp), fun p1 np1 => ⟨sz5 (by simp), fun p2 np2 => ⟨_, rfl, _, _, rfl, rfl, (show (0 : Int) < 5 by decide), _, _, rfl, rfl, (by rw [hk, lit_oc]; exact mulOk_S _ _ (by simp; omega) (by omega)), _, _, rfl, rfl, (by rw [hk, lit_oc, mul_S, lit_x, len_S, len_S, hml]; exact sz5 (by simp; omega)), sz5 (by simp), fun pl npl => ?_⟩⟩⟩
    have s1 := Same.new np1 (o := HO.lst [V.str (Str.ofString "(")])
    have s2 := Same.new np2 (o := HO.tup [V.str (Str.ofString "("), V.str (Str.ofString ")")])
    have s3 := Same.new npl (o := HO.lst [V.non, V.int 5, V.ref p1, V.ref p2, V.str (Str.ofString "[]"), V.str (Str.ofString "( )"), V.str (Str.ofString "()\n"), V.str (Txt.mul (Str.ofString "()") (mo % 5) ++ Str.ofString "x")])
    obtain ⟨v, hv, hat⟩ := at_mem [V.non, V.int 5, V.ref p1, V.ref p2, V.str (Str.ofString "[]"), V.str (Str.ofString "( )"), V.str (Str.ofString "()\n"), V.str (Txt.mul (Str.ofString "()") (mo % 5) ++ Str.ofString "x")] wh (n := 8) rfl (by decide)
    refine ⟨_, rfl, _, _, rfl, rfl, (show (0 : Int) < 8 by decide), pl, _, _, _, rfl, rfl, SqL.of upd_same, hat, ?_⟩
    have hbad : BadR (upd (upd (upd H p1 (HO.lst [V.str (Str.ofString "(")])) p2 (HO.tup [V.str (Str.ofString "("), V.str (Str.ofString ")")])) pl (HO.lst [V.non, V.int 5, V.ref p1, V.ref p2, V.str (Str.ofString "[]"), V.str (Str.ofString "( )"), V.str (Str.ofString "()\n"), V.str (Txt.mul (Str.ofString "()") (mo % 5) ++ Str.ofString "x")])) v := by
      simp only [List.mem_cons, List.not_mem_nil, or_false] at hv
      rcases hv with rfl | rfl | rfl | rfl | rfl | rfl | rfl | rfl
      · exact .inr (.inl rfl)
      · exact .inr (.inr (.inl ⟨_, rfl⟩))
      · exact .inr (.inr (.inr (.inl ⟨p1, _, rfl, s3 _ _ (s2 _ _ upd_same)⟩)))
      · exact .inr (.inr (.inr (.inr ⟨p2, _, rfl, s3 _ _ upd_same⟩)))
      · exact .inl ⟨_, congrArg V.str lit_sq, by decide, not_row (c := 91) (by simp) (by decide)⟩
      · exact .inl ⟨_, congrArg V.str lit_bl, by decide, not_row (c := 32) (by simp) (by decide)⟩
      · exact .inl ⟨_, congrArg V.str lit_nl, by decide, not_row (c := 10) (by simp) (by decide)⟩
      · exact .inl ⟨_, congrArg V.str em, by rw [List.length_append, hml]; simp; omega, not_row (c := 120) (by simp) (by decide)⟩
    have s13 := (s1.trans s2).trans s3
    generalize upd (upd (upd H p1 (HO.lst [V.str (Str.ofString "(")])) p2 (HO.tup [V.str (Str.ofString "("), V.str (Str.ofString ")")])) pl (HO.lst [V.non, V.int 5, V.ref p1, V.ref p2, V.str (Str.ofString "[]"), V.str (Str.ofString "( )"), V.str (Str.ofString "()\n"), V.str (Txt.mul (Str.ofString "()") (mo % 5) ++ Str.ofString "x")]) = H1 at *
    obtain ⟨d, hd⟩ : ∃ d : Nat, wh / 8 % 10 = (d : Int) := ⟨(wh / 8 % 10).toNat, by rw [Int.toNat_of_nonneg (Int.emod_nonneg _ (by decide))]⟩
    have hd10 : d < 10 := by have := Int.emod_lt_of_pos (wh / 8) (show (0 : Int) < 10 by decide); omega
    refine ⟨_, rfl, _, _, rfl, rfl, ⟨by decide, by decide⟩, _, _, rfl, rfl, (show (0 : Int) < 10 by decide), ?_⟩
    dsimp only
    rw [hd]
    have fin : ∀ H', Same H1 H' → E (.ref T.c_BadRow) none H' := fun H' s => q H' (s13.trans s)
    refine ⟨_, rfl, _, _, rfl, rfl, _, rfl, ?_⟩
    by_cases h7 : d < 7
    · refine iteD (show (d : Int) < 7 by omega) ⟨sz5 (by simp), fun q1 nq1 => ?_⟩
      have sq := Same.new nq1 (o := HO.lst [V.ref T.f_filled.a, V.ref T.f_first.a, V.ref T.f_last.a, V.ref T.f_settled.a, V.ref T.f_how_many.a, V.ref T.f_depths.a, V.ref T.f_partners.a])
      have hb := hbad.keep sq
      have hf := fin _ sq
      obtain rfl | rfl | rfl | rfl | rfl | rfl | rfl : d = 0 ∨ d = 1 ∨ d = 2 ∨ d = 3 ∨ d = 4 ∨ d = 5 ∨ d = 6 := by omega
      · exact ⟨_, rfl, q1, _, _, _, rfl, rfl, SqL.of upd_same, atI_nat (j := 0) rfl, _, _, rfl, .inl ⟨rfl, rfl⟩, _, rfl, br_filled hb hf⟩
      · exact ⟨_, rfl, q1, _, _, _, rfl, rfl, SqL.of upd_same, atI_nat (j := 1) rfl, _, _, rfl, .inr (.inl ⟨rfl, rfl⟩), _, rfl, _, rfl, br_asks hb hf⟩
      · exact ⟨_, rfl, q1, _, _, _, rfl, rfl, SqL.of upd_same, atI_nat (j := 2) rfl, _, _, rfl, .inr (.inr (.inl ⟨rfl, rfl⟩)), _, rfl, _, rfl, br_asks hb hf⟩
      · exact ⟨_, rfl, q1, _, _, _, rfl, rfl, SqL.of upd_same, atI_nat (j := 3) rfl, _, _, rfl, .inr (.inr (.inr (.inl ⟨rfl, rfl⟩))), _, rfl, _, rfl, br_asks hb hf⟩
      · exact ⟨_, rfl, q1, _, _, _, rfl, rfl, SqL.of upd_same, atI_nat (j := 4) rfl, _, _, rfl, .inr (.inr (.inr (.inr (.inl ⟨rfl, rfl⟩)))), _, rfl, br_howMany hb hf⟩
      · exact ⟨_, rfl, q1, _, _, _, rfl, rfl, SqL.of upd_same, atI_nat (j := 5) rfl, _, _, rfl, .inr (.inr (.inr (.inr (.inr (.inl ⟨rfl, rfl⟩))))), _, rfl, br_depths hb hf⟩
      · exact ⟨_, rfl, q1, _, _, _, rfl, rfl, SqL.of upd_same, atI_nat (j := 6) rfl, _, _, rfl, .inr (.inr (.inr (.inr (.inr (.inr (.inl ⟨rfl, rfl⟩)))))), _, rfl, br_partners hb hf⟩
    · refine iteDn (show ¬ (d : Int) < 7 by omega) ⟨sz5 (by simp), fun q1 nq1 => ?_⟩
      have sq := Same.new nq1 (o := HO.lst [V.ref T.f_told.a, V.ref T.f_number_of.a, V.ref T.f_cheapest.a])
      have hb := hbad.keep sq
      have hf := fin _ sq
      obtain rfl | rfl | rfl : d = 7 ∨ d = 8 ∨ d = 9 := by omega
      · exact ⟨_, rfl, _, _, rfl, rfl, q1, _, _, _, rfl, rfl, SqL.of upd_same, atI_nat (j := 0) rfl, _, _, rfl, .inr (.inr (.inr (.inr (.inr (.inr (.inr (.inl ⟨rfl, rfl⟩))))))), _, rfl, _, _, rfl, br_asks hb hf⟩
      · exact ⟨_, rfl, _, _, rfl, rfl, q1, _, _, _, rfl, rfl, SqL.of upd_same, atI_nat (j := 1) rfl, _, _, rfl, .inr (.inr (.inr (.inr (.inr (.inr (.inr (.inr (.inl ⟨rfl, rfl⟩)))))))), _, rfl, _, _, rfl, br_asks hb hf⟩
      · exact ⟨_, rfl, _, _, rfl, rfl, q1, _, _, _, rfl, rfl, SqL.of upd_same, atI_nat (j := 2) rfl, _, _, rfl, .inr (.inr (.inr (.inr (.inr (.inr (.inr (.inr (.inr ⟨rfl, rfl⟩)))))))), _, rfl, _, _, rfl, br_asks hb hf⟩
end
end HT

set_option Elab.async false
set_option linter.all false
set_option maxRecDepth 100000
set_option maxHeartbeats 1000000
/-! What a filling costs; a row of rubbed signs; lists of pairs compared. -/
namespace BR
def priceAt (l : List Nat) (D : List (Int × Int)) (k : Nat) : Int × Int := D.getD ((l.take k).count 63) (0, 0)
/-- what t costs at its first k places -/
def costTo (l : List Nat) (D : List (Int × Int)) (t : List Nat) : Nat → Int
  | 0 => 0
  | k + 1 => costTo l D t k + (if l.getD k 0 = 63 then (if t.getD k 0 = 40 then (priceAt l D k).1 else (priceAt l D k).2) else 0)
def closeTo (l : List Nat) (D : List (Int × Int)) : Nat → Int
  | 0 => 0
  | k + 1 => closeTo l D k + (if l.getD k 0 = 63 then (priceAt l D k).2 else 0)
theorem cost_gain {l : List Nat} {D : List (Int × Int)} {t : List Nat} : ∀ k, k ≤ l.length → costTo l D t k = closeTo l D k + gain l t (mores l (D.map fun z => z.1 - z.2)) k
  | 0, _ => rfl
  | k + 1, h => by
    have hk : k < l.length := by omega
    have ih := cost_gain (l := l) (D := D) (t := t) k (by omega)
    have lk : l[k]? = some l[k] := List.getElem?_eq_getElem hk
    have hl : l.getD k 0 = l[k] := by rw [List.getD_eq_getElem?_getD, lk]; rfl
    show costTo l D t k + _ = (closeTo l D k + _) + (gain l t _ k + _)
    rw [ih]
    by_cases h63 : l.getD k 0 = 63
    · rw [if_pos h63, if_pos h63, if_pos h63]
      rw [hl] at h63
      rw [h63] at lk
      have hm : (mores l (D.map fun z => z.1 - z.2)).getD k 0 = (priceAt l D k).1 - (priceAt l D k).2 := by
        rw [mores_get _ _ _ lk]
        unfold priceAt
        rw [List.getD_eq_getElem?_getD, List.getD_eq_getElem?_getD, List.getElem?_map]
        cases D[(l.take k).count 63]? <;> rfl
      rw [hm]
      unfold opn
      by_cases h40 : t.getD k 0 = 40
      · rw [if_pos h40, if_pos h40]; omega
      · rw [if_neg h40, if_neg h40]; omega
    · rw [if_neg h63, if_neg h63, if_neg h63]; omega
theorem cheap_cost {l t u : List Nat} {D : List (Int × Int)} {lv : List Int} (h : lvOk l t (mores l (D.map fun z => z.1 - z.2)) lv = true) (ht : IsRow t) (hu : isFilling l u = true) (hur : IsRow u) : costTo l D t l.length ≤ costTo l D u l.length := by
  rw [cost_gain _ (Nat.le_refl _), cost_gain _ (Nat.le_refl _)]
  have := lvOk_cheap h ht hu hur
  omega
theorem can_qs : ∀ (n d : Nat), d ≤ n → (n - d) % 2 = 0 → can (List.replicate n 63) d = true
  | 0, d, h, _ => decide_eq_true (show d = 0 by omega)
  | n + 1, d, h, hp => by
    rw [List.replicate_succ, can_cons]
    by_cases h0 : 0 < d
    · exact .inr ⟨by decide, h0, can_qs n (d - 1) (by omega) (by omega)⟩
    · exact .inl ⟨by decide, can_qs n (d + 1) (by omega) (by omega)⟩
theorem row_qs (n : Nat) : IsRow (List.replicate n 63) := fun c hc => .inr (.inr (List.mem_replicate.mp hc).2)
end BR
namespace L2
open PySem PySem.Spec PyProof.Rows
theorem eqvAll_prs : ∀ L : List Pr, PyData.eqvAll (L.map fun z => pD z.2) (L.map fun z => pD z.2) = true
  | [] => by rw [List.map_nil]; simp [PyData.eqvAll]
  | z :: L => by
    rw [List.map_cons, PyData.eqvAll, pD_eqv, decide_eq_true rfl, eqvAll_prs L]; rfl
theorem canLay_prs : ∀ L : List Pr, PyData.canLayAll0 (L.map fun z => pD z.2) = true
  | [] => rfl
  | z :: L => by
    show (PyData.canLay0 (pD z.2) && PyData.canLayAll0 (L.map fun z => pD z.2)) = true
    rw [canLay_prs L, Bool.and_true]
    simp [pD, PyData.canLay0, PyData.canLayAll0]
theorem shaped_prs (L : List Pr) : SeqAt.shaped (.list (L.map fun z => pD z.2)) = true := by
  unfold SeqAt.shaped
  have h1 : PyData.canLay0 (.list (L.map fun z => pD z.2)) = true := canLay_prs L
  have h2 : PyData.depth (.list (L.map fun z => pD z.2)) ≤ 64 := by
    show PyData.depthAll (L.map fun z => pD z.2) + 1 ≤ 64
    have := prs_depth L
    omega
  rw [h1, decide_eq_true h2]; rfl
theorem rd_neP {X : Cx} {H : Hp} {Q : VK} {p q : Addr} {L : List Pr} (hL : PrsAt H L) (h1 : SqL X.K H p (prV L)) (h2 : SqL X.K H q (prV L)) (k : Q (.bl false) H) : rNeD X.K (.ref p) (.ref q) H Q := by
  refine ⟨_, _, .lst h1 (prs_dp hL), .lst h2 (prs_dp hL), shaped_prs L, shaped_prs L, ?_⟩
  have e : PyData.eqv (.list (L.map fun z => pD z.2)) (.list (L.map fun z => pD z.2)) = true := by
    rw [PyData.eqv]; exact eqvAll_prs L
  rw [e]
  exact k
end L2

set_option Elab.async false
set_option linter.all false
set_option maxRecDepth 100000
set_option maxHeartbeats 4000000
namespace HT
open PySem PySem.Spec PyProof.Rows L2 BR
local macro_rules | `(tactic| walk_at "sq") => `(tactic| first | exact SqL.of (by assumption) | exact SqL.of upd_same | exact SqT.of (by assumption) | exact SqT.of upd_same | assumption | exact Same.seq (by assumption) (by assumption) | exact Same.seq (Same.trans (by assumption) (by assumption)) (by assumption))
local macro_rules | `(tactic| walk_at "len") => `(tactic| (simp only [List.length_append, List.length_map, List.length_cons, List.length_nil, List.length_set, List.length_replicate, List.length_take, List.length_drop, List.length_reverse, List.length_range, dpi_len, dps_len, len_S]; omega))
local macro_rules | `(tactic| walk_at "g1") => `(tactic| first
  | refine ⟨_, rfl, ?_⟩
  | refine ⟨rfl, ?_⟩
  | refine ⟨_, _, rfl, rfl, @id.{0} _ (by first | decide | omega | exact ⟨by decide, by decide⟩ | exact .inr ⟨by decide, by decide⟩ | (show (0 : Int) < _; decide)), ?_⟩
  | refine ⟨_, _, rfl, rfl, ?_⟩
  | refine ⟨_, _, _, _, rfl, rfl, (by walk_at "sq"), (by first | exact atI_last _ _ | (with_reducible exact atI_nat (by assumption))), ?_⟩
  | refine ⟨.inl ⟨rfl, _, (by walk_at "sq")⟩, ?_⟩
  | refine ⟨_, _, rfl, (by first | exact .inl (by walk_at "sq") | exact .inr (by walk_at "sq")), ?_⟩
  | refine ⟨_, rfl, (by first | exact sz5 (by walk_at "len") | exact szS (by omega)), ?_⟩
  | refine ⟨_, _, _, rfl, rfl, (by assumption), sz5l (by walk_at "len"), ?_⟩)
local macro_rules | `(tactic| walk_at "go") => `(tactic| repeat walk_at "g1")
local macro_rules | `(tactic| walk_at "nxt") => `(tactic| (show tSeq Ends.nx _ _ _ _; refine nx_in ?_))

theorem flat_qs : ∀ n : Nat, (List.replicate n [63]).flatten = List.replicate n 63
  | 0 => rfl
  | n + 1 => by rw [List.replicate_succ, List.flatten_cons, flat_qs n, List.replicate_succ]; rfl
/-! ### lists of made values -/
section
variable {σ : L2.St} {B : Hp → V → Prop} {te ta tb : TE} {tr : TA} {n : Nat}
/-- te makes a value of which B holds -/
def Mk1 (B : Hp → V → Prop) (σ : L2.St) (te : TE) : Prop := ∀ (H : Hp) (Q : VK), (∀ H' v, Same H H' → B H' v → Q v H') → te σ H Q
def MkA (B : Hp → V → Prop) (σ : L2.St) (t : TA) (n : Nat) : Prop := ∀ (H : Hp) (Q : List V → Hp → Prop), (∀ H' xs, Same H H' → (∀ v ∈ xs, B H' v) → xs.length = n → Q xs H') → t σ H Q
theorem mk_nil : MkA B σ tNil 0 := fun H Q q => q H [] (Same.refl _) (fun v hv => by cases hv) rfl
theorem mk_cons (hk : ∀ H H' v, B H v → Same H H' → B H' v) (h : Mk1 B σ te) (ht : MkA B σ tr n) : MkA B σ (tCons te tr) (n + 1) := fun H Q q =>
  h H _ fun H1 v s1 b1 => ht H1 _ fun H2 xs s2 b2 hl => q H2 (v :: xs) (s1.trans s2) (fun y hy => by
    rcases List.mem_cons.mp hy with rfl | hy
    · exact hk _ _ _ b1 s2
    · exact b2 y hy) (by rw [List.length_cons, hl])
theorem mk_c {v : V} (h : ∀ H, B H v) : Mk1 B σ (tC v) := fun H Q q => q H v (Same.refl _) (h H)
theorem mk_val {v : V} (h : ∀ H, B H v) (hv : ∀ (H : Hp) (Q : VK), Q v H → te σ H Q) : Mk1 B σ te := fun H Q q => hv H Q (q H v (Same.refl _) (h H))
theorem mk_lst {xs : List V} {t : TA} (hn : xs.length ≤ 100) (ht : ∀ (H : Hp) (Q : List V → Hp → Prop), Q xs H → t σ H Q) (h : ∀ H p, H p = some (.lst xs) → B H (.ref p)) : Mk1 B σ (tLst t) := fun H Q q =>
  ht H _ ⟨sz5 (by omega), fun p np => q _ _ (Same.new np) (h _ _ upd_same)⟩
theorem mk_tup {xs : List V} {t : TA} (hn : xs.length ≤ 100) (ht : ∀ (H : Hp) (Q : List V → Hp → Prop), Q xs H → t σ H Q) (h : ∀ H p, H p = some (.tup xs) → B H (.ref p)) : Mk1 B σ (tTup t) := fun H Q q =>
  ht H _ ⟨sz5 (by omega), fun p np => q _ _ (Same.new np) (h _ _ upd_same)⟩
end
section
variable {P : Program} {w : World} {K : PySem.W.Frag} {mg : Str → Option Value} {base : Heap}
theorem lit_n1 : (Str.ofString "())?") = St_ [40, 41, 41, 63] := by decide +kernel
theorem lit_n2 : (Str.ofString "??(((?") = St_ [63, 63, 40, 40, 40, 63] := by decide +kernel
theorem lit_n3 : (Str.ofString ")?") = St_ [41, 63] := by decide +kernel
theorem lit_n4 : (Str.ofString "?(") = St_ [63, 40] := by decide +kernel
theorem lit_oqqc : (Str.ofString "(??)") = St_ [40, 63, 63, 41] := by decide +kernel
def rowB (l : List Nat) : Bool := l.all fun c => decide (c = 40 ∨ c = 41 ∨ c = 63)
theorem row_of {l : List Nat} (h : rowB l = true) : IsRow l := fun c hc => of_decide_eq_true (List.all_eq_true.mp h c hc)
theorem no_of {l : List Nat} (h : (rowB l && (!can l 0 && (!isClosed l && decide (l.length ≤ 1000)))) = true) : NoF l := by
  rw [Bool.and_eq_true, Bool.and_eq_true, Bool.and_eq_true, decide_eq_true_eq] at h
  obtain ⟨h1, h2, h3, h4⟩ := h
  exact ⟨row_of h1, by simpa using h2, by simpa using h3, h4⟩
theorem no_qs (k : Nat) (hk : k < 9) : NoF (List.replicate (2 * k + 1) 63) := by
  refine ⟨row_qs _, ?_, ?_, by rw [List.length_replicate]; omega⟩
  · refine Bool.eq_false_iff.mpr fun h => ?_
    have := (can_even (row_qs _) h).1
    rw [List.length_replicate] at this
    omega
  · unfold isClosed
    rw [decide_eq_false (by simp), Bool.false_and]
theorem no_co (k : Nat) (hk : k < 9) : NoF ((List.replicate k [40, 41]).flatten ++ [41, 40]) := by
  obtain rfl | rfl | rfl | rfl | rfl | rfl | rfl | rfl | rfl : k = 0 ∨ k = 1 ∨ k = 2 ∨ k = 3 ∨ k = 4 ∨ k = 5 ∨ k = 6 ∨ k = 7 ∨ k = 8 := by omega
  all_goals exact no_of (by decide +kernel)
def spLawNoneAsked (T : Txt K mg) : Sp := fun vs H Q E => ∃ wh mo : Int, vs = [.int wh, .int mo] ∧ ∀ H', Same H H' → E (.ref T.c_NoFilling) none H'
theorem okLawNoneAsked (T : Txt K mg) : FnOk P w K mg base (L2N.CX P w) 8 T.f__law_none_asked.a T.f__law_none_asked.fd ["_law_which", "_law_more"] (spLawNoneAsked T) := by
  refine T.f__law_none_asked.F.okXN scLawNoneAsked (fun vs H Q E h => ?_) (fun cdv A outer s H vs Q E hr h => ?_)
  · obtain ⟨wh, mo, rfl, _⟩ := h
    rfl
  · obtain ⟨wh, mo, rfl, q⟩ := h
    refine ⟨_, (pss_cons (ps_set (i := 2) scLawNoneAsked.nd rfl (by first | exact Or.inl rfl | exact Or.inr rfl) (pe_ix ix_list (pe_lst (pa_cons pe_str (pa_cons pe_str (pa_cons pe_str (pa_cons pe_str (pa_cons pe_str (pa_cons pe_str (pa_cons (pe_op op_mulS pe_str (pe_op op_add (pe_op op_mul pe_int (pe_op op_mod (pv 1) pe_int)) pe_int)) (pa_cons (pe_op op_add_str (pe_op op_mulS pe_str (pe_op op_mod (pv 1) pe_int)) pe_str) pa_nil))))))))) (pe_op op_mod (pv 0) pe_int) (fun _ _ => rfl)))
      (pss_cons (ps_set (i := 3) scLawNoneAsked.nd rfl (by first | exact Or.inl rfl | exact Or.inr rfl) (pe_op op_mod (pe_op op_fdiv (pv 0) pe_int) pe_int))
      (pss_cons (ps_if (pt_cmpR op_lt (pv 3) pe_int (nomark _)) (pss_one (ps_ret (pe_callSub (pe_ix ix_list (pe_lst (pa_cons (pe_glob (v := .ref T.f_first.a) (by rfl) T.f_first.g rfl) (pa_cons (pe_glob (v := .ref T.f_last.a) (by rfl) T.f_last.g rfl) (pa_cons (pe_glob (v := .ref T.f_settled.a) (by rfl) T.f_settled.g rfl) (pa_cons (pe_glob (v := .ref T.f_depths.a) (by rfl) T.f_depths.g rfl) (pa_cons (pe_glob (v := .ref T.f_partners.a) (by rfl) T.f_partners.g rfl) pa_nil)))))) (pv 3) (fun _ _ => rfl)) (doorsOk T) (hr.mono (by decide)) (L2N.passes_call (L2N.takes_of rfl rfl rfl rfl) (fun _ _ _ _ h => h)) (pa_cons (pv 2) pa_nil))))
      pss_nil)
      (pss_one (ps_ret (pe_callSub (pe_ix ix_list (pe_lst (pa_cons (pe_glob (v := .ref T.f_told.a) (by rfl) T.f_told.g rfl) (pa_cons (pe_glob (v := .ref T.f_number_of.a) (by rfl) T.f_number_of.g rfl) (pa_cons (pe_glob (v := .ref T.f_cheapest.a) (by rfl) T.f_cheapest.g rfl) pa_nil)))) (pe_op op_sub (pv 3) pe_int) (fun _ _ => rfl)) (doorsOk T) (hr.mono (by decide)) (L2N.passes_call (L2N.takes_of rfl rfl rfl rfl) (fun _ _ _ _ h => h)) (pa_cons (pv 2) (pa_cons pe_non pa_nil)))))))), ?_⟩
    obtain ⟨k, hk⟩ : ∃ k : Nat, mo % 9 = (k : Int) := ⟨(mo % 9).toNat, by rw [Int.toNat_of_nonneg (Int.emod_nonneg _ (by decide))]⟩
    have hk9 : k < 9 := by have := Int.emod_lt_of_pos mo (show (0 : Int) < 9 by decide); omega
    have e7 : Txt.mul (Str.ofString "?") (2 * (mo % 9) + 1) = St_ (List.replicate (2 * k + 1) 63) := by
      rw [hk, lit_q, show 2 * (k : Int) + 1 = ((2 * k + 1 : Nat) : Int) by omega, mul_S, flat_qs]
    have e8 : Txt.mul (Str.ofString "()") (mo % 9) ++ Str.ofString ")(" = St_ ((List.replicate k [40, 41]).flatten ++ [41, 40]) := by
      rw [hk, lit_oc, mul_S, lit_co, add_S]
    have hml : (List.replicate k [40, 41]).flatten.length = 2 * k := by simp; omega
    refine ⟨_, rfl, _, _, rfl, rfl, (show (0 : Int) < 9 by decide), _, _, rfl, rfl, .inl ⟨by decide, by decide⟩, _, _, rfl, rfl, _, _, rfl, rfl, (by rw [hk, lit_q, show 2 * (k : Int) + 1 = ((2 * k + 1 : Nat) : Int) by omega]; exact mulOk_S _ _ (by simp; omega) (by omega)), _, rfl, _, _, rfl, rfl, (show (0 : Int) < 9 by decide), _, _, rfl, rfl, (by rw [hk, lit_oc]; exact mulOk_S _ _ (by simp; omega) (by omega)), _, _, rfl, rfl, (by rw [hk, lit_oc, mul_S, lit_co, len_S, len_S, hml]; exact sz5 (by simp; omega)), sz5 (by simp), fun pl npl => ?_⟩
    have s1 := Same.new npl (o := HO.lst [V.str (Str.ofString ")"), V.str (Str.ofString "?"), V.str (Str.ofString "())?"), V.str (Str.ofString "??(((?"), V.str (Str.ofString ")?"), V.str (Str.ofString "?("), V.str (Txt.mul (Str.ofString "?") (2 * (mo % 9) + 1)), V.str (Txt.mul (Str.ofString "()") (mo % 9) ++ Str.ofString ")(")])
    obtain ⟨v, hv, hat⟩ := at_mem [V.str (Str.ofString ")"), V.str (Str.ofString "?"), V.str (Str.ofString "())?"), V.str (Str.ofString "??(((?"), V.str (Str.ofString ")?"), V.str (Str.ofString "?("), V.str (Txt.mul (Str.ofString "?") (2 * (mo % 9) + 1)), V.str (Txt.mul (Str.ofString "()") (mo % 9) ++ Str.ofString ")(")] wh (n := 8) rfl (by decide)
    have hno : ∃ l, v = S l ∧ NoF l := by
      simp only [List.mem_cons, List.not_mem_nil, or_false] at hv
      rcases hv with rfl | rfl | rfl | rfl | rfl | rfl | rfl | rfl
      · exact ⟨_, congrArg V.str lit_cl, no_of (by decide +kernel)⟩
      · exact ⟨_, congrArg V.str lit_q, no_of (by decide +kernel)⟩
      · exact ⟨_, congrArg V.str lit_n1, no_of (by decide +kernel)⟩
      · exact ⟨_, congrArg V.str lit_n2, no_of (by decide +kernel)⟩
      · exact ⟨_, congrArg V.str lit_n3, no_of (by decide +kernel)⟩
      · exact ⟨_, congrArg V.str lit_n4, no_of (by decide +kernel)⟩
      · exact ⟨_, congrArg V.str e7, no_qs k hk9⟩
      · exact ⟨_, congrArg V.str e8, no_co k hk9⟩
    refine ⟨_, rfl, _, _, rfl, rfl, (show (0 : Int) < 8 by decide), pl, _, _, _, rfl, rfl, SqL.of upd_same, hat, ?_⟩
    obtain ⟨l, rfl, hn⟩ := hno
    generalize upd H pl _ = H1 at *
    obtain ⟨d, hd⟩ : ∃ d : Nat, wh / 8 % 8 = (d : Int) := ⟨(wh / 8 % 8).toNat, by rw [Int.toNat_of_nonneg (Int.emod_nonneg _ (by decide))]⟩
    have hd8 : d < 8 := by have := Int.emod_lt_of_pos (wh / 8) (show (0 : Int) < 8 by decide); omega
    refine ⟨_, rfl, _, _, rfl, rfl, ⟨by decide, by decide⟩, _, _, rfl, rfl, (show (0 : Int) < 8 by decide), ?_⟩
    dsimp only
    rw [hd]
    have fin : ∀ H', Same H1 H' → E (.ref T.c_NoFilling) none H' := fun H' s => q H' (s1.trans s)
    refine ⟨_, rfl, _, _, rfl, rfl, _, rfl, ?_⟩
    by_cases h5 : d < 5
    · refine iteD (show (d : Int) < 5 by omega) ⟨sz5 (by simp), fun q1 nq1 => ?_⟩
      have sq := Same.new nq1 (o := HO.lst [V.ref T.f_first.a, V.ref T.f_last.a, V.ref T.f_settled.a, V.ref T.f_depths.a, V.ref T.f_partners.a])
      have hf : ∀ H', Same (upd H1 q1 (HO.lst [V.ref T.f_first.a, V.ref T.f_last.a, V.ref T.f_settled.a, V.ref T.f_depths.a, V.ref T.f_partners.a])) H' → E (.ref T.c_NoFilling) none H' := fun H' s => fin H' (sq.trans s)
      obtain rfl | rfl | rfl | rfl | rfl : d = 0 ∨ d = 1 ∨ d = 2 ∨ d = 3 ∨ d = 4 := by omega
      · exact ⟨_, rfl, q1, _, _, _, rfl, rfl, SqL.of upd_same, atI_nat (j := 0) rfl, _, _, rfl, .inr (.inl ⟨rfl, rfl⟩), _, rfl, _, rfl, no_asks hn hf⟩
      · exact ⟨_, rfl, q1, _, _, _, rfl, rfl, SqL.of upd_same, atI_nat (j := 1) rfl, _, _, rfl, .inr (.inr (.inl ⟨rfl, rfl⟩)), _, rfl, _, rfl, no_asks hn hf⟩
      · exact ⟨_, rfl, q1, _, _, _, rfl, rfl, SqL.of upd_same, atI_nat (j := 2) rfl, _, _, rfl, .inr (.inr (.inr (.inl ⟨rfl, rfl⟩))), _, rfl, _, rfl, no_asks hn hf⟩
      · exact ⟨_, rfl, q1, _, _, _, rfl, rfl, SqL.of upd_same, atI_nat (j := 3) rfl, _, _, rfl, .inr (.inr (.inr (.inr (.inr (.inl ⟨rfl, rfl⟩))))), _, rfl, no_depths hn hf⟩
      · exact ⟨_, rfl, q1, _, _, _, rfl, rfl, SqL.of upd_same, atI_nat (j := 4) rfl, _, _, rfl, .inr (.inr (.inr (.inr (.inr (.inr (.inl ⟨rfl, rfl⟩)))))), _, rfl, no_partners hn hf⟩
    · refine iteDn (show ¬ (d : Int) < 5 by omega) ⟨sz5 (by simp), fun q1 nq1 => ?_⟩
      have sq := Same.new nq1 (o := HO.lst [V.ref T.f_told.a, V.ref T.f_number_of.a, V.ref T.f_cheapest.a])
      have hf : ∀ H', Same (upd H1 q1 (HO.lst [V.ref T.f_told.a, V.ref T.f_number_of.a, V.ref T.f_cheapest.a])) H' → E (.ref T.c_NoFilling) none H' := fun H' s => fin H' (sq.trans s)
      obtain rfl | rfl | rfl : d = 5 ∨ d = 6 ∨ d = 7 := by omega
      · exact ⟨_, rfl, _, _, rfl, rfl, q1, _, _, _, rfl, rfl, SqL.of upd_same, atI_nat (j := 0) rfl, _, _, rfl, .inr (.inr (.inr (.inr (.inr (.inr (.inr (.inl ⟨rfl, rfl⟩))))))), _, rfl, _, _, rfl, no_asks hn hf⟩
      · exact ⟨_, rfl, _, _, rfl, rfl, q1, _, _, _, rfl, rfl, SqL.of upd_same, atI_nat (j := 1) rfl, _, _, rfl, .inr (.inr (.inr (.inr (.inr (.inr (.inr (.inr (.inl ⟨rfl, rfl⟩)))))))), _, rfl, _, _, rfl, no_asks hn hf⟩
      · exact ⟨_, rfl, _, _, rfl, rfl, q1, _, _, _, rfl, rfl, SqL.of upd_same, atI_nat (j := 2) rfl, _, _, rfl, .inr (.inr (.inr (.inr (.inr (.inr (.inr (.inr (.inr ⟨rfl, rfl⟩)))))))), _, rfl, _, _, rfl, no_asks hn hf⟩
end
end HT

set_option Elab.async false
set_option linter.all false
set_option maxRecDepth 100000
set_option maxHeartbeats 4000000
namespace HT
open PySem PySem.Spec PyProof.Rows L2 BR
local macro_rules | `(tactic| walk_at "sq") => `(tactic| first | exact SqL.of (by assumption) | exact SqL.of upd_same | exact SqT.of (by assumption) | exact SqT.of upd_same | assumption | exact Same.seq (by assumption) (by assumption) | exact Same.seq (Same.trans (by assumption) (by assumption)) (by assumption))
local macro_rules | `(tactic| walk_at "len") => `(tactic| (simp only [List.length_append, List.length_map, List.length_cons, List.length_nil, List.length_set, List.length_replicate, List.length_take, List.length_drop, List.length_reverse, List.length_range, dpi_len, dps_len, len_S]; omega))
local macro_rules | `(tactic| walk_at "g1") => `(tactic| first
  | refine ⟨_, rfl, ?_⟩
  | refine ⟨rfl, ?_⟩
  | refine ⟨_, _, rfl, rfl, @id.{0} _ (by first | decide | omega | exact ⟨by decide, by decide⟩ | exact .inr ⟨by decide, by decide⟩ | (show (0 : Int) < _; decide)), ?_⟩
  | refine ⟨_, _, rfl, rfl, ?_⟩
  | refine ⟨_, _, _, _, rfl, rfl, (by walk_at "sq"), (by first | exact atI_last _ _ | (with_reducible exact atI_nat (by assumption))), ?_⟩
  | refine ⟨.inl ⟨rfl, _, (by walk_at "sq")⟩, ?_⟩
  | refine ⟨_, _, rfl, (by first | exact .inl (by walk_at "sq") | exact .inr (by walk_at "sq")), ?_⟩
  | refine ⟨_, rfl, (by first | exact sz5 (by walk_at "len") | exact szS (by omega)), ?_⟩
  | refine ⟨_, _, _, rfl, rfl, (by assumption), sz5l (by walk_at "len"), ?_⟩)
local macro_rules | `(tactic| walk_at "go") => `(tactic| repeat walk_at "g1")
local macro_rules | `(tactic| walk_at "nxt") => `(tactic| (show tSeq Ends.nx _ _ _ _; refine nx_in ?_))

section
variable {K : PySem.W.Frag} {σ : L2.St} {H : Hp} {B : Hp → V → Prop} {t tr : TA} {tb : TE} {n : Nat} {D : Ends} {rest : TS} {i : Nat} {sp : Sp} {dvs : List V} {E : XK} {s : V} {Q : VK}
theorem lst_mk (hk : ∀ H H' v, B H v → Same H H' → B H' v) (h : MkA B σ t n) (hn : n ≤ 100) (k : ∀ H1 xs p, Same H H1 → (∀ v ∈ xs, B H1 v) → xs.length = n → H1 p = some (.lst xs) → Q (.ref p) H1) : tLst t σ H Q :=
  h H _ fun H1 xs s1 hb hl => ⟨sz5 (by omega), fun p np => k _ xs p (s1.trans (Same.new np)) (fun v hv => hk _ _ _ (hb v hv) (Same.new np)) hl upd_same⟩
theorem asg_mk (hk : ∀ H H' v, B H v → Same H H' → B H' v) (h : MkA B σ t n) (hn : n ≤ 100) (k : ∀ H1 xs p, Same H H1 → (∀ v ∈ xs, B H1 v) → xs.length = n → H1 p = some (.lst xs) → rest D (σ.set i (some (.ref p))) H1) : tSeq (tAsg (tLst t) (gName i)) rest D σ H :=
  lst_mk (Q := fun x H1 => rest D (σ.set i (some x)) H1) hk h hn k
theorem rc_ix (hk : ∀ H H' v, B H v → Same H H' → B H' v) (h : MkA B σ t n) (hn : n ≤ 100) (k : ∀ H1 xs p, Same H H1 → (∀ v ∈ xs, B H1 v) → xs.length = n → H1 p = some (.lst xs) → tb σ H1 fun y H2 => rIxL K (.ref p) y H2 fun v H3 => sp ([s, v] ++ dvs) H3 D.rt E) :
    tRet (tCall sp dvs E (tCons (tC s) (tCons (tOp (rIxL K) (tLst t) tb) tNil))) D σ H :=
  lst_mk (Q := fun x H1 => tb σ H1 fun y H2 => rIxL K x y H2 fun v H3 => sp ([s, v] ++ dvs) H3 D.rt E) hk h hn k
end
section
variable {P : Program} {w : World} {K : PySem.W.Frag} {mg : Str → Option Value} {base : Heap}
/-- no count of a filling of (??) -/
def BadN (H : Hp) (v : V) : Prop := v = .non ∨ (∃ x, v = .str x) ∨ (∃ b, v = .bl b) ∨ (∃ z : Int, v = .int z ∧ ¬ (0 ≤ z ∧ z < 2)) ∨ (∃ a xs, v = .ref a ∧ H a = some (.lst xs)) ∨ ∃ a xs, v = .ref a ∧ H a = some (.tup xs)
theorem BadN.keep : ∀ (H H' : Hp) (v : V), BadN H v → Same H H' → BadN H' v := by
  rintro H H' v (h | h | h | h | ⟨a, xs, e, h⟩ | ⟨a, xs, e, h⟩) s
  · exact .inl h
  · exact .inr (.inl h)
  · exact .inr (.inr (.inl h))
  · exact .inr (.inr (.inr (.inl h)))
  · exact .inr (.inr (.inr (.inr (.inl ⟨a, xs, e, s _ _ h⟩))))
  · exact .inr (.inr (.inr (.inr (.inr ⟨a, xs, e, s _ _ h⟩))))
theorem BadN.three {H : Hp} {v : V} (h : BadN H v) : NotI K H v ∨ (∃ b, v = .bl b) ∨ ∃ z : Int, v = .int z ∧ ¬ (0 ≤ z ∧ z < (cnt [40, 63, 63, 41] 0 : Nat)) := by
  have e2 : cnt [40, 63, 63, 41] 0 = 2 := by decide +kernel
  rw [e2]
  rcases h with rfl | ⟨x, rfl⟩ | h | h | ⟨a, xs, rfl, h⟩ | ⟨a, xs, rfl, h⟩
  · exact .inl fun H' s => ⟨_, .base .non, kit_ty (by decide +kernel)⟩
  · exact .inl fun H' s => ⟨_, .base (.str _), kit_ty (by decide +kernel)⟩
  · exact .inr (.inl h)
  · exact .inr (.inr h)
  · exact .inl fun H' s => ⟨_, .base (.lst (s _ _ h)), kit_ty (by decide +kernel)⟩
  · exact .inl fun H' s => ⟨_, .base (.tup (s _ _ h)), kit_ty (by decide +kernel)⟩
/-- no filling of (??) -/
def BadT (H : Hp) (v : V) : Prop := (∃ t, v = S t ∧ t.length ≤ 1000 ∧ (IsRow t ∨ t.length ≠ 4) ∧ isFilling [40, 63, 63, 41] t = false) ∨ v = .non ∨ (∃ z : Int, v = .int z) ∨ ∃ a xs, v = .ref a ∧ H a = some (.lst xs)
theorem BadT.keep : ∀ (H H' : Hp) (v : V), BadT H v → Same H H' → BadT H' v := by
  rintro H H' v (h | h | h | ⟨a, xs, e, h⟩) s
  · exact .inl h
  · exact .inr (.inl h)
  · exact .inr (.inr (.inl h))
  · exact .inr (.inr (.inr ⟨a, xs, e, s _ _ h⟩))
theorem bt_of {t : List Nat} (x : Str) (e : x = St_ t) (h : (decide (t.length ≤ 1000) && (rowB t && !isFilling [40, 63, 63, 41] t)) = true) (H : Hp) : BadT H (.str x) := by
  rw [Bool.and_eq_true, Bool.and_eq_true, decide_eq_true_eq] at h
  exact .inl ⟨t, congrArg V.str e, h.1, .inl (row_of h.2.1), by simpa using h.2.2⟩
/-- no prices of (??) -/
def BadPr (H : Hp) (v : V) : Prop := NotLst H v ∨ ∃ a, ∃ xs : List (V × Bool), v = .ref a ∧ H a = some (.lst (xs.map (·.1))) ∧ xs.length ≤ 1000 ∧ (∀ e ∈ xs, PrB H e.1 e.2) ∧ (xs.length ≠ 2 ∨ xs.all (·.2) = false)
theorem BadPr.keep : ∀ (H H' : Hp) (v : V), BadPr H v → Same H H' → BadPr H' v := by
  rintro H H' v (h | ⟨a, xs, e, h, h1, h2, h3⟩) s
  · exact .inl (h.keep s)
  · exact .inr ⟨a, xs, e, s _ _ h, h1, fun y hy => (h2 y hy).keep s, h3⟩
section
variable {σ : L2.St} {ta tb : TE} {b c : Bool}
abbrev MkB (b : Bool) (σ : L2.St) (te : TE) : Prop := Mk1 (fun H v => PrB H v b) σ te
theorem bp_one (h : MkB b σ ta) : Mk1 BadPr σ (tLst (tCons ta tNil)) := fun H Q q => h H _ fun H1 v s1 b1 => ⟨sz5 (by simp), fun p np => q _ _ (s1.trans (Same.new np)) (.inr ⟨p, [(v, b)], rfl, upd_same, by simp, (fun e he => by
  rw [List.mem_singleton.mp he]; exact PrB.keep b1 (Same.new np)), .inl (by simp)⟩)⟩
theorem bp_two (ha : MkB b σ ta) (hb : MkB c σ tb) (hbc : (b && c) = false) : Mk1 BadPr σ (tLst (tCons ta (tCons tb tNil))) := fun H Q q => ha H _ fun H1 v s1 b1 => hb H1 _ fun H2 v2 s2 b2 => ⟨sz5 (by simp), fun p np => q _ _ ((s1.trans s2).trans (Same.new np)) (.inr ⟨p, [(v, b), (v2, c)], rfl, upd_same, by simp, (fun e he => by
  rcases List.mem_cons.mp he with rfl | he
  · exact PrB.keep b1 (s2.trans (Same.new np))
  · rw [List.mem_singleton.mp he]; exact PrB.keep b2 (Same.new np)), .inr (by simp [hbc])⟩)⟩
theorem bp_rep (h : MkB b σ ta) : Mk1 BadPr σ (tOp rRep (tLst (tCons ta tNil)) (tC (.int 3))) := fun H Q q => h H _ fun H1 v s1 b1 => ⟨sz5 (by simp), fun p np => ⟨p, 3, [v], rfl, rfl, upd_same, by decide, by decide, sz5 (show 1 * 3 ≤ 100000 by decide), fun p2 np2 => by
  have s2 := Same.new np (o := HO.lst [v])
  have s3 := Same.new np2 (o := HO.lst (List.replicate (3 : Int).toNat [v]).flatten)
  refine q _ _ ((s1.trans s2).trans s3) (.inr ⟨p2, [(v, b), (v, b), (v, b)], rfl, upd_same, by simp, (fun e he => ?_), .inl (by simp)⟩)
  have : e = (v, b) := by simpa using he
  rw [this]
  exact PrB.keep b1 (s2.trans s3)⟩⟩
theorem mb_pair (x y : V) (hx : Item x) (hy : Item y) : MkB (isI x && isI y) σ (tTup (tCons (tC x) (tCons (tC y) tNil))) :=
  mk_tup (xs := [x, y]) (by simp) (fun H Q q => q) fun H p hp => .inl ⟨p, _, rfl, hp, (fun z hz => by
    rcases List.mem_cons.mp hz with rfl | hz
    · exact hx
    · rw [List.mem_singleton.mp hz]; exact hy), by simp, by simp⟩
theorem mb_one (x : V) (hx : Item x) : MkB false σ (tTup (tCons (tC x) tNil)) :=
  mk_tup (xs := [x]) (by simp) (fun H Q q => q) fun H p hp => .inl ⟨p, _, rfl, hp, (fun z hz => by rw [List.mem_singleton.mp hz]; exact hx), by simp, by simp⟩
theorem mb_lst (x y : V) : MkB false σ (tLst (tCons (tC x) (tCons (tC y) tNil))) :=
  mk_lst (xs := [x, y]) (by simp) (fun H Q q => q) fun H p hp => .inr ⟨.inl ⟨p, _, rfl, hp⟩, rfl⟩
theorem mb_int (z : Int) : MkB false σ (tC (.int z)) := mk_c fun H => .inr ⟨.inr ⟨_, rfl⟩, rfl⟩
theorem it_i (z : Int) : Item (.int z) := .inl ⟨_, rfl⟩
end
theorem asks_oqqc {T : Txt K mg} {H : Hp} {E : XK} {k : List Nat → Prop} (h : k [40, 63, 63, 41]) : Asks T (.str (Str.ofString "(??)")) H E k :=
  .inl ⟨[40, 63, 63, 41], congrArg V.str lit_oqqc, by decide, fun h => absurd (row_of (by decide +kernel)) h, fun _ hc => absurd hc (by decide +kernel), fun _ _ => h⟩
def spLawOthersAsked (T : Txt K mg) : Sp := fun vs H Q E => ∃ ki wh mo : Int, vs = [.int ki, .int wh, .int mo] ∧ 0 ≤ mo ∧ (ki = 2 → ∀ H', Same H H' → E (.ref T.c_BadNumber) none H') ∧ (ki = 3 → ∀ H', Same H H' → E (.ref T.c_BadText) none H') ∧ (ki ≠ 2 → ki ≠ 3 → ∀ H', Same H H' → E (.ref T.c_BadPrices) none H')
theorem okLawOthersAsked (T : Txt K mg) : FnOk P w K mg base (L2N.CX P w) 8 T.f__law_others_asked.a T.f__law_others_asked.fd ["_law_kind", "_law_which", "_law_more"] (spLawOthersAsked T) := by
  refine T.f__law_others_asked.F.okXN scLawOthersAsked (fun vs H Q E h => ?_) (fun cdv A outer s H vs Q E hr h => ?_)
  · obtain ⟨ki, wh, mo, rfl, _⟩ := h
    rfl
  · obtain ⟨ki, wh, mo, rfl, hmo, e2, e3, e4⟩ := h
    refine ⟨_, (pss_cons (ps_if (pt_cmpR op_eq (pv 0) pe_int (nomark _)) (pss_one (ps_ret (pe_call (okTold T) (hr.mono (by decide)) (by rfl) T.f_told.g T.f_told.F.kp T.f_told.b .nil (L2N.passes_call (L2N.takes_of rfl rfl rfl rfl) (fun _ _ _ _ h => h)) (pa_cons pe_str (pa_cons (pe_ix ix_list (pe_lst (pa_cons pe_non (pa_cons pe_str (pa_cons pe_bl (pa_cons (pe_lst (pa_cons pe_int pa_nil)) (pa_cons (pe_op op_sub (pe_un un_neg pe_int) (pv 2)) (pa_cons (pe_op op_add pe_int (pv 2)) (pa_cons (pe_tup (pa_cons pe_int pa_nil)) pa_nil)))))))) (pe_op op_mod (pv 1) pe_int) (fun _ _ => rfl)) pa_nil)))))
      pss_nil)
      (pss_cons (ps_if (pt_cmpR op_eq (pv 0) pe_int (nomark _)) (pss_cons (ps_set (i := 3) scLawOthersAsked.nd rfl (by first | exact Or.inl rfl | exact Or.inr rfl) (pe_lst (pa_cons pe_non (pa_cons pe_int (pa_cons (pe_lst (pa_cons pe_str (pa_cons pe_str pa_nil))) (pa_cons pe_str (pa_cons pe_str (pa_cons pe_str (pa_cons pe_str (pa_cons pe_str (pa_cons (pe_op op_add_str pe_str (pe_op op_mulS pe_str (pe_op op_add pe_int (pe_op op_mod (pv 2) pe_int)))) pa_nil)))))))))))
      (pss_one (ps_ret (pe_call (okNumberOf T) (hr.mono (by decide)) (by rfl) T.f_number_of.g T.f_number_of.F.kp T.f_number_of.b .nil (L2N.passes_call (L2N.takes_of rfl rfl rfl rfl) (fun _ _ _ _ h => h)) (pa_cons pe_str (pa_cons (pe_ix ix_list (pv 3) (pe_op op_mod (pv 1) pe_int) (fun _ _ => rfl)) pa_nil))))))
      pss_nil)
      (pss_cons (ps_set (i := 3) scLawOthersAsked.nd rfl (by first | exact Or.inl rfl | exact Or.inr rfl) (pe_lst (pa_cons pe_non (pa_cons (pe_tup pa_nil) (pa_cons pe_str (pa_cons (pe_lst pa_nil) (pa_cons (pe_lst (pa_cons (pe_tup (pa_cons pe_int (pa_cons pe_int pa_nil))) pa_nil)) (pa_cons (pe_op op_rep (pe_lst (pa_cons (pe_tup (pa_cons pe_int (pa_cons pe_int pa_nil))) pa_nil)) pe_int) (pa_cons (pe_lst (pa_cons (pe_tup (pa_cons pe_int (pa_cons pe_int pa_nil))) (pa_cons (pe_lst (pa_cons pe_int (pa_cons pe_int pa_nil))) pa_nil))) (pa_cons (pe_lst (pa_cons (pe_tup (pa_cons pe_int (pa_cons pe_int pa_nil))) (pa_cons (pe_tup (pa_cons pe_int pa_nil)) pa_nil))) (pa_cons (pe_lst (pa_cons (pe_tup (pa_cons pe_int (pa_cons pe_int pa_nil))) (pa_cons (pe_tup (pa_cons pe_int (pa_cons pe_bl pa_nil))) pa_nil))) pa_nil)))))))))))
      (pss_one (ps_ret (pe_call (okCheapest T) (hr.mono (by decide)) (by rfl) T.f_cheapest.g T.f_cheapest.F.kp T.f_cheapest.b .nil (L2N.passes_call (L2N.takes_of rfl rfl rfl rfl) (fun _ _ _ _ h => h)) (pa_cons pe_str (pa_cons (pe_ix ix_list (pe_op op_cat (pv 3) (pe_lst (pa_cons (pe_lst (pa_cons (pe_tup (pa_cons pe_str (pa_cons pe_int pa_nil))) (pa_cons (pe_tup (pa_cons pe_int (pa_cons pe_int pa_nil))) pa_nil))) (pa_cons (pe_lst (pa_cons (pe_tup (pa_cons pe_int (pa_cons pe_int pa_nil))) (pa_cons (pe_tup (pa_cons pe_int (pa_cons pe_non pa_nil))) pa_nil))) (pa_cons (pe_lst (pa_cons pe_int (pa_cons (pe_tup (pa_cons pe_int (pa_cons pe_int pa_nil))) pa_nil))) pa_nil))))) (pe_op op_mod (pv 1) pe_int) (fun _ _ => rfl)) pa_nil)))))))), ?_⟩
    refine ⟨_, rfl, rfl, _, rfl, ?_⟩
    rw [d_int]
    by_cases h2 : ki = 2
    · refine iteD h2 ?_
      refine rc_ix (B := BadN) (n := 7) BadN.keep (mk_cons BadN.keep (mk_c fun _ => .inl rfl) (mk_cons BadN.keep (mk_c fun _ => .inr (.inl ⟨_, rfl⟩)) (mk_cons BadN.keep (mk_c fun _ => .inr (.inr (.inl ⟨_, rfl⟩))) (mk_cons BadN.keep (mk_lst (xs := [.int 0]) (by simp) (fun H Q q => q) fun H p hp => .inr (.inr (.inr (.inr (.inl ⟨p, _, rfl, hp⟩)))))
        (mk_cons BadN.keep (mk_val (v := .int (-1 - mo)) (fun _ => .inr (.inr (.inr (.inl ⟨_, rfl, by omega⟩)))) (fun H Q q => ⟨1, rfl, _, rfl, _, _, rfl, rfl, q⟩)) (mk_cons BadN.keep (mk_val (v := .int (2 + mo)) (fun _ => .inr (.inr (.inr (.inl ⟨_, rfl, by omega⟩)))) (fun H Q q => ⟨_, rfl, _, _, rfl, rfl, q⟩))
        (mk_cons BadN.keep (mk_tup (xs := [.int 1]) (by simp) (fun H Q q => q) fun H p hp => .inr (.inr (.inr (.inr (.inr ⟨p, _, rfl, hp⟩))))) mk_nil))))))) (by decide) fun H1 xs p s1 hb hl hp => ?_
      obtain ⟨v, hv, hat⟩ := at_mem xs wh (n := 7) (by omega) (by decide)
      exact ⟨_, rfl, _, _, rfl, rfl, (show (0 : Int) < 7 by decide), p, _, _, _, rfl, rfl, SqL.of hp, hat, _, _, rfl, asks_oqqc ⟨by decide, .inr ⟨(hb v hv).three, fun H' s => e2 h2 H' (s1.trans s)⟩⟩⟩
    refine iteDn h2 ⟨_, rfl, rfl, _, rfl, ?_⟩
    rw [d_int]
    by_cases h3 : ki = 3
    · refine iteD h3 ?_
      obtain ⟨k, hk⟩ : ∃ k : Nat, mo % 3 = (k : Int) := ⟨(mo % 3).toNat, by rw [Int.toNat_of_nonneg (Int.emod_nonneg _ (by decide))]⟩
      have hk3 : k < 3 := by have := Int.emod_lt_of_pos mo (show (0 : Int) < 3 by decide); omega
      have l_sp : (Str.ofString " ") = St_ [32] := by decide +kernel
      have l_oo : (Str.ofString "()()") = St_ [40, 41, 40, 41] := by decide +kernel
      have l_7 : (Str.ofString "(())()") = St_ [40, 40, 41, 41, 40, 41] := by decide +kernel
      have l_8 : (Str.ofString "((()") = St_ [40, 40, 40, 41] := by decide +kernel
      have l_9 : (Str.ofString "()?)") = St_ [40, 41, 63, 41] := by decide +kernel
      have e1k : 1 + mo % 3 = ((1 + k : Nat) : Int) := by rw [hk]; omega
      have em : Str.ofString "()()" ++ Txt.mul (Str.ofString " ") (1 + mo % 3) = St_ ([40, 41, 40, 41] ++ (List.replicate (1 + k) [32]).flatten) := by
        rw [e1k, l_sp, mul_S, l_oo, add_S]
      have hml : (List.replicate (1 + k) [32]).flatten.length = 1 + k := by simp
      have last : ∀ H, BadT H (.str (Str.ofString "()()" ++ Txt.mul (Str.ofString " ") (1 + mo % 3))) := fun H => by
        refine .inl ⟨_, congrArg V.str em, by rw [List.length_append, hml]; simp; omega, .inr (by rw [List.length_append, hml]; simp), ?_⟩
        unfold isFilling
        rw [decide_eq_false (by rw [List.length_append, hml]; simp), Bool.false_and]
      refine asg_mk (B := BadT) (n := 9) BadT.keep (mk_cons BadT.keep (mk_c fun _ => .inr (.inl rfl)) (mk_cons BadT.keep (mk_c fun _ => .inr (.inr (.inl ⟨_, rfl⟩))) (mk_cons BadT.keep (mk_lst (xs := [.str (Str.ofString "("), .str (Str.ofString ")")]) (by simp) (fun H Q q => q) fun H p hp => .inr (.inr (.inr ⟨p, _, rfl, hp⟩)))
        (mk_cons BadT.keep (mk_c (bt_of _ lit_e (by decide +kernel))) (mk_cons BadT.keep (mk_c (bt_of _ lit_oc (by decide +kernel))) (mk_cons BadT.keep (mk_c (bt_of _ l_7 (by decide +kernel))) (mk_cons BadT.keep (mk_c (bt_of _ l_8 (by decide +kernel))) (mk_cons BadT.keep (mk_c (bt_of _ l_9 (by decide +kernel)))
        (mk_cons BadT.keep (mk_val (v := .str (Str.ofString "()()" ++ Txt.mul (Str.ofString " ") (1 + mo % 3))) last (fun H Q q => ⟨_, rfl, _, _, rfl, rfl, (show (0 : Int) < 3 by decide), _, _, rfl, rfl, _, _, rfl, rfl, (by rw [e1k, l_sp]; exact mulOk_S _ _ (by simp; omega) (by omega)), _, _, rfl, rfl, (by rw [e1k, l_sp, mul_S, l_oo, len_S, len_S, hml]; exact sz5 (by simp; omega)), q⟩)) mk_nil))))))))) (by decide) fun H1 xs p s1 hb hl hp => ?_
      obtain ⟨v, hv, hat⟩ := at_mem xs wh (n := 9) (by omega) (by decide)
      refine ⟨_, rfl, _, rfl, _, _, rfl, rfl, (show (0 : Int) < 9 by decide), p, _, _, _, rfl, rfl, SqL.of hp, hat, _, _, rfl, asks_oqqc ⟨by decide, ?_⟩⟩
      rcases hb v hv with ⟨t, rfl, ht1, ht2, ht3⟩ | rfl | ⟨z, rfl⟩ | ⟨a, ys, rfl, h⟩
      · exact .inl ⟨t, rfl, by omega, ht2, (fun h => by rw [ht3] at h; cases h), fun _ H' s => e3 h3 H' (s1.trans s)⟩
      · exact .inr ⟨fun H' s => ⟨_, .base .non, kit_ty (by decide +kernel)⟩, fun H' s => e3 h3 H' (s1.trans s)⟩
      · exact .inr ⟨fun H' s => ⟨_, .base (.int _), kit_ty (by decide +kernel)⟩, fun H' s => e3 h3 H' (s1.trans s)⟩
      · exact .inr ⟨fun H' s => ⟨_, .base (.lst (s _ _ h)), kit_ty (by decide +kernel)⟩, fun H' s => e3 h3 H' (s1.trans s)⟩
    refine iteDn h3 ?_
    have k4 := BadPr.keep
    have p12 : ∀ {σ : L2.St}, MkB true σ (tTup (tCons (tC (.int 1)) (tCons (tC (.int 2)) tNil))) := fun {σ} => mb_pair (.int 1) (.int 2) (it_i _) (it_i _)
    walk_at "nxt"
    refine asg_mk (B := BadPr) (n := 9) k4 (mk_cons k4 (mk_c fun _ => .inl (.inl rfl)) (mk_cons k4 (mk_tup (xs := []) (by simp) (fun H Q q => q) fun H p hp => .inl (.inr (.inr ⟨p, _, rfl, hp⟩))) (mk_cons k4 (mk_c fun _ => .inl (.inr (.inl ⟨_, rfl⟩)))
      (mk_cons k4 (mk_lst (xs := []) (by simp) (fun H Q q => q) fun H p hp => .inr ⟨p, [], rfl, hp, by simp, (fun e he => by cases he), .inl (by simp)⟩) (mk_cons k4 (bp_one p12) (mk_cons k4 (bp_rep p12) (mk_cons k4 (bp_two p12 (mb_lst _ _) rfl) (mk_cons k4 (bp_two p12 (mb_one _ (it_i _)) rfl)
      (mk_cons k4 (bp_two p12 (mb_pair (.int 1) (.bl true) (it_i _) (.inr (.inl ⟨_, rfl⟩))) rfl) mk_nil))))))))) (by decide) fun H1 xs p s1 hb hl hp => ?_
    refine ⟨_, rfl, ?_⟩
    refine lst_mk (B := BadPr) (n := 3) k4 (mk_cons k4 (bp_two (mb_pair (.str (Str.ofString "1")) (.int 2) (.inr (.inr (.inl ⟨_, rfl⟩))) (it_i _)) p12 rfl) (mk_cons k4 (bp_two p12 (mb_pair (.int 1) .non (it_i _) (.inr (.inr (.inr rfl)))) rfl) (mk_cons k4 (bp_two (mb_int 5) p12 rfl) mk_nil))) (by decide) fun H2 ys p2 s2 hb2 hl2 hp2 => ?_
    refine ⟨p, p2, xs, ys, rfl, rfl, s2 _ _ hp, hp2, sz5 (by omega), fun pc npc => ?_⟩
    have s3 := Same.new npc (o := HO.lst (xs ++ ys))
    have hall : ∀ v ∈ xs ++ ys, BadPr (upd H2 pc (HO.lst (xs ++ ys))) v := fun v hv => by
      rcases List.mem_append.mp hv with h | h
      · exact k4 _ _ _ (hb v h) (s2.trans s3)
      · exact k4 _ _ _ (hb2 v h) s3
    obtain ⟨v, hv, hat⟩ := at_mem (xs ++ ys) wh (n := 12) (by rw [List.length_append]; omega) (by decide)
    refine ⟨_, rfl, _, _, rfl, rfl, (show (0 : Int) < 12 by decide), pc, _, _, _, rfl, rfl, SqL.of upd_same, hat, _, _, rfl, asks_oqqc (.inr ⟨?_, fun H' s => e4 h2 h3 H' (((s1.trans s2).trans s3).trans s)⟩)⟩
    rcases hall v hv with h | ⟨a, zs, e, h, h1, h5, h6⟩
    · exact .inl h
    · exact .inr ⟨a, zs, e, h, h1, h5, h6⟩
end
end HT

set_option Elab.async false
set_option linter.all false
set_option maxRecDepth 100000
set_option maxHeartbeats 4000000
namespace HT
open PySem PySem.Spec PyProof.Rows L2 BR
local macro_rules | `(tactic| walk_at "sq") => `(tactic| first | exact SqL.of (by assumption) | exact SqL.of upd_same | exact SqT.of (by assumption) | exact SqT.of upd_same | assumption | exact Same.seq (by assumption) (by assumption) | exact Same.seq (Same.trans (by assumption) (by assumption)) (by assumption))
local macro_rules | `(tactic| walk_at "len") => `(tactic| (simp only [List.length_append, List.length_map, List.length_cons, List.length_nil, List.length_set, List.length_replicate, List.length_take, List.length_drop, List.length_reverse, List.length_range, dpi_len, dps_len, len_S]; omega))
local macro_rules | `(tactic| walk_at "g1") => `(tactic| first
  | refine ⟨_, rfl, ?_⟩
  | refine ⟨rfl, ?_⟩
  | refine ⟨_, _, rfl, rfl, @id.{0} _ (by first | decide | omega | exact ⟨by decide, by decide⟩ | exact .inr ⟨by decide, by decide⟩ | (show (0 : Int) < _; decide)), ?_⟩
  | refine ⟨_, _, rfl, rfl, ?_⟩
  | refine ⟨_, _, _, _, rfl, rfl, (by walk_at "sq"), (by first | exact atI_last _ _ | (with_reducible exact atI_nat (by assumption))), ?_⟩
  | refine ⟨.inl ⟨rfl, _, (by walk_at "sq")⟩, ?_⟩
  | refine ⟨_, _, rfl, (by first | exact .inl (by walk_at "sq") | exact .inr (by walk_at "sq")), ?_⟩
  | refine ⟨_, rfl, (by first | exact sz5 (by walk_at "len") | exact szS (by omega)), ?_⟩
  | refine ⟨_, _, _, rfl, rfl, (by assumption), sz5l (by walk_at "len"), ?_⟩)
local macro_rules | `(tactic| walk_at "go") => `(tactic| repeat walk_at "g1")
local macro_rules | `(tactic| walk_at "nxt") => `(tactic| (show tSeq Ends.nx _ _ _ _; refine nx_in ?_))

theorem pss_ex {X : Cx} {st : List Stmt} {ι : Type} {p : ι → Prop} {t : ι → TS} (h : ∀ c, p c → PSs X st (t c)) : PSs X st (fun D σ H => ∃ c, p c ∧ t c D σ H) :=
  ⟨fun pins s σ H D I ⟨c, hp, hw⟩ => (h c hp).run pins s σ H D I hw⟩
inductive Cl5 where
  | row | fil | num | txt | prc
section
variable {P : Program} {w : World} {K : PySem.W.Frag} {mg : Str → Option Value} {base : Heap}
def cA (T : Txt K mg) : Cl5 → Addr
  | .row => T.c_BadRow
  | .fil => T.c_NoFilling
  | .num => T.c_BadNumber
  | .txt => T.c_BadText
  | .prc => T.c_BadPrices
/-- isinstance(error, c), the error held at a, of the class at C -/
def tIsC (K : PySem.W.Frag) (C a : Addr) (c : V) : TE := tCB (rIsE K C a) (tCons (tVar 3) (tCons (tC c) tNil))
def tSuiteC (T : Txt K mg) (C a : Addr) : TS :=
  tSeq (tAsg (tLst (tCons (tIsC K C a (.ref T.c_BadRow)) (tCons (tIsC K C a (.ref T.c_NoFilling)) (tCons (tIsC K C a (.ref T.c_BadNumber)) tNil)))) (gName 4))
    (tRet (tOp rCat (tVar 4) (tLst (tCons (tIsC K C a (.ref T.c_BadText)) (tCons (tIsC K C a (.ref T.c_BadPrices)) (tCons (tIsC K C a (.ty "ValueError")) tNil))))))
def dueB (ki : Int) : List Bool := [decide (ki = 0), decide (ki = 1), decide (ki = 2), decide (ki = 3), decide (ki = 4), true]
def spLawTold (T : Txt K mg) : Sp := fun vs H Q _ => ∃ ki wh mo : Int, vs = [.int ki, .int wh, .int mo] ∧ 0 ≤ ki ∧ ki < 5 ∧ 0 ≤ mo ∧ ∀ H' p, Same H H' → H' p = some (.lst ((dueB ki).map V.bl)) → Q (.ref p) H'
theorem okLawTold (T : Txt K mg) : FnOk P w K mg base CX0 9 T.f__law_told.a T.f__law_told.fd ["_law_kind", "_law_which", "_law_more"] (spLawTold T) := by
  refine T.f__law_told.F.ok scLawTold (fun vs H Q E h => ?_) (fun cdv A outer s H vs Q E hr h => ?_)
  · obtain ⟨ki, wh, mo, rfl, _⟩ := h
    rfl
  · obtain ⟨ki, wh, mo, rfl, hk0, hk5, hmo, q⟩ := h
    refine ⟨_, pss_cons (L2N.ps_try_as (i := 3) (tb := fun W => tIfS (tTest (tOp rEq (tVar 0) (tC (.int 0)))) (tDrop (tCallS (spLawRowAsked T) (WE W) (tCons (tVar 1) (tCons (tVar 2) tNil))))
          (tIfS (tTest (tOp rEq (tVar 0) (tC (.int 1)))) (tDrop (tCallS (spLawNoneAsked T) (WE W) (tCons (tVar 1) (tCons (tVar 2) tNil)))) (tDrop (tCallS (spLawOthersAsked T) (WE W) (tCons (tVar 0) (tCons (tVar 1) (tCons (tVar 2) tNil)))))))
        (ts := fun a cls d => fun D σ H => ∃ c : Cl5, (cls = .ref (cA T c) ∧ d = none) ∧ tSuiteC T (cA T c) a D σ H) (Wout := fun _ _ _ _ => False) rfl rfl scLawTold.nd rfl rfl ⟨rfl, by decide, .inl T.g_BracketError⟩ takes0N
        (fun W pn xe tk _ => pss_one (ps_if (pt_cmpR op_eq (pv 0) pe_int (nomark _)) (pss_one (ps_expr (by exact (pe_callS (okLawRowAsked T) (hr.mono (by decide)) (by rfl) T.f__law_row_asked.g T.f__law_row_asked.F.kp T.f__law_row_asked.b (fun σ => L2N.passAt tk σ) (by exact (pa_cons (pv 1) (pa_cons (pv 2) pa_nil)))))))
          (pss_one (ps_if (pt_cmpR op_eq (pv 0) pe_int (nomark _)) (pss_one (ps_expr (by exact (pe_callS (okLawNoneAsked T) (hr.mono (by decide)) (by rfl) T.f__law_none_asked.g T.f__law_none_asked.F.kp T.f__law_none_asked.b (fun σ => L2N.passAt tk σ) (by exact (pa_cons (pv 1) (pa_cons (pv 2) pa_nil)))))))
            (pss_one (ps_expr (by exact (pe_callS (okLawOthersAsked T) (hr.mono (by decide)) (by rfl) T.f__law_others_asked.g T.f__law_others_asked.F.kp T.f__law_others_asked.b (fun σ => L2N.passAt tk σ) (by exact (pa_cons (pv 0) (pa_cons (pv 1) (pa_cons (pv 2) pa_nil)))))))))))) 
        (fun a oe cls d pn hz hf' => pss_ex fun c ⟨e1, e2⟩ => by
          subst e1 e2
          cases c with
          | row => exact (pss_cons (ps_set (i := 4) scLawTold.nd rfl (by first | exact Or.inl rfl | exact Or.inr rfl) (pe_lst (pa_cons (pe_callB (call_isE T.e_BadRow (L2N.Zn.zc hz) hf') (by rfl) T.n_isinstance (by decide +kernel) (pa_cons (pv 3) (pa_cons (pe_glob (v := .ref T.c_BadRow) (by rfl) T.g_BadRow rfl) pa_nil))) (pa_cons (pe_callB (call_isE T.e_BadRow (L2N.Zn.zc hz) hf') (by rfl) T.n_isinstance (by decide +kernel) (pa_cons (pv 3) (pa_cons (pe_glob (v := .ref T.c_NoFilling) (by rfl) T.g_NoFilling rfl) pa_nil))) (pa_cons (pe_callB (call_isE T.e_BadRow (L2N.Zn.zc hz) hf') (by rfl) T.n_isinstance (by decide +kernel) (pa_cons (pv 3) (pa_cons (pe_glob (v := .ref T.c_BadNumber) (by rfl) T.g_BadNumber rfl) pa_nil))) pa_nil)))))
      (pss_one (ps_ret (pe_op op_cat (pv 4) (pe_lst (pa_cons (pe_callB (call_isE T.e_BadRow (L2N.Zn.zc hz) hf') (by rfl) T.n_isinstance (by decide +kernel) (pa_cons (pv 3) (pa_cons (pe_glob (v := .ref T.c_BadText) (by rfl) T.g_BadText rfl) pa_nil))) (pa_cons (pe_callB (call_isE T.e_BadRow (L2N.Zn.zc hz) hf') (by rfl) T.n_isinstance (by decide +kernel) (pa_cons (pv 3) (pa_cons (pe_glob (v := .ref T.c_BadPrices) (by rfl) T.g_BadPrices rfl) pa_nil))) (pa_cons (pe_callB (call_isE T.e_BadRow (L2N.Zn.zc hz) hf') (by rfl) T.n_isinstance (by decide +kernel) (pa_cons (pv 3) (pa_cons (pe_bltn (v := .ty "ValueError") (by rfl) T.n_ValueError (by decide +kernel) rfl) pa_nil))) pa_nil))))))))
          | fil => exact (pss_cons (ps_set (i := 4) scLawTold.nd rfl (by first | exact Or.inl rfl | exact Or.inr rfl) (pe_lst (pa_cons (pe_callB (call_isE T.e_NoFilling (L2N.Zn.zc hz) hf') (by rfl) T.n_isinstance (by decide +kernel) (pa_cons (pv 3) (pa_cons (pe_glob (v := .ref T.c_BadRow) (by rfl) T.g_BadRow rfl) pa_nil))) (pa_cons (pe_callB (call_isE T.e_NoFilling (L2N.Zn.zc hz) hf') (by rfl) T.n_isinstance (by decide +kernel) (pa_cons (pv 3) (pa_cons (pe_glob (v := .ref T.c_NoFilling) (by rfl) T.g_NoFilling rfl) pa_nil))) (pa_cons (pe_callB (call_isE T.e_NoFilling (L2N.Zn.zc hz) hf') (by rfl) T.n_isinstance (by decide +kernel) (pa_cons (pv 3) (pa_cons (pe_glob (v := .ref T.c_BadNumber) (by rfl) T.g_BadNumber rfl) pa_nil))) pa_nil)))))
      (pss_one (ps_ret (pe_op op_cat (pv 4) (pe_lst (pa_cons (pe_callB (call_isE T.e_NoFilling (L2N.Zn.zc hz) hf') (by rfl) T.n_isinstance (by decide +kernel) (pa_cons (pv 3) (pa_cons (pe_glob (v := .ref T.c_BadText) (by rfl) T.g_BadText rfl) pa_nil))) (pa_cons (pe_callB (call_isE T.e_NoFilling (L2N.Zn.zc hz) hf') (by rfl) T.n_isinstance (by decide +kernel) (pa_cons (pv 3) (pa_cons (pe_glob (v := .ref T.c_BadPrices) (by rfl) T.g_BadPrices rfl) pa_nil))) (pa_cons (pe_callB (call_isE T.e_NoFilling (L2N.Zn.zc hz) hf') (by rfl) T.n_isinstance (by decide +kernel) (pa_cons (pv 3) (pa_cons (pe_bltn (v := .ty "ValueError") (by rfl) T.n_ValueError (by decide +kernel) rfl) pa_nil))) pa_nil))))))))
          | num => exact (pss_cons (ps_set (i := 4) scLawTold.nd rfl (by first | exact Or.inl rfl | exact Or.inr rfl) (pe_lst (pa_cons (pe_callB (call_isE T.e_BadNumber (L2N.Zn.zc hz) hf') (by rfl) T.n_isinstance (by decide +kernel) (pa_cons (pv 3) (pa_cons (pe_glob (v := .ref T.c_BadRow) (by rfl) T.g_BadRow rfl) pa_nil))) (pa_cons (pe_callB (call_isE T.e_BadNumber (L2N.Zn.zc hz) hf') (by rfl) T.n_isinstance (by decide +kernel) (pa_cons (pv 3) (pa_cons (pe_glob (v := .ref T.c_NoFilling) (by rfl) T.g_NoFilling rfl) pa_nil))) (pa_cons (pe_callB (call_isE T.e_BadNumber (L2N.Zn.zc hz) hf') (by rfl) T.n_isinstance (by decide +kernel) (pa_cons (pv 3) (pa_cons (pe_glob (v := .ref T.c_BadNumber) (by rfl) T.g_BadNumber rfl) pa_nil))) pa_nil)))))
      (pss_one (ps_ret (pe_op op_cat (pv 4) (pe_lst (pa_cons (pe_callB (call_isE T.e_BadNumber (L2N.Zn.zc hz) hf') (by rfl) T.n_isinstance (by decide +kernel) (pa_cons (pv 3) (pa_cons (pe_glob (v := .ref T.c_BadText) (by rfl) T.g_BadText rfl) pa_nil))) (pa_cons (pe_callB (call_isE T.e_BadNumber (L2N.Zn.zc hz) hf') (by rfl) T.n_isinstance (by decide +kernel) (pa_cons (pv 3) (pa_cons (pe_glob (v := .ref T.c_BadPrices) (by rfl) T.g_BadPrices rfl) pa_nil))) (pa_cons (pe_callB (call_isE T.e_BadNumber (L2N.Zn.zc hz) hf') (by rfl) T.n_isinstance (by decide +kernel) (pa_cons (pv 3) (pa_cons (pe_bltn (v := .ty "ValueError") (by rfl) T.n_ValueError (by decide +kernel) rfl) pa_nil))) pa_nil))))))))
          | txt => exact (pss_cons (ps_set (i := 4) scLawTold.nd rfl (by first | exact Or.inl rfl | exact Or.inr rfl) (pe_lst (pa_cons (pe_callB (call_isE T.e_BadText (L2N.Zn.zc hz) hf') (by rfl) T.n_isinstance (by decide +kernel) (pa_cons (pv 3) (pa_cons (pe_glob (v := .ref T.c_BadRow) (by rfl) T.g_BadRow rfl) pa_nil))) (pa_cons (pe_callB (call_isE T.e_BadText (L2N.Zn.zc hz) hf') (by rfl) T.n_isinstance (by decide +kernel) (pa_cons (pv 3) (pa_cons (pe_glob (v := .ref T.c_NoFilling) (by rfl) T.g_NoFilling rfl) pa_nil))) (pa_cons (pe_callB (call_isE T.e_BadText (L2N.Zn.zc hz) hf') (by rfl) T.n_isinstance (by decide +kernel) (pa_cons (pv 3) (pa_cons (pe_glob (v := .ref T.c_BadNumber) (by rfl) T.g_BadNumber rfl) pa_nil))) pa_nil)))))
      (pss_one (ps_ret (pe_op op_cat (pv 4) (pe_lst (pa_cons (pe_callB (call_isE T.e_BadText (L2N.Zn.zc hz) hf') (by rfl) T.n_isinstance (by decide +kernel) (pa_cons (pv 3) (pa_cons (pe_glob (v := .ref T.c_BadText) (by rfl) T.g_BadText rfl) pa_nil))) (pa_cons (pe_callB (call_isE T.e_BadText (L2N.Zn.zc hz) hf') (by rfl) T.n_isinstance (by decide +kernel) (pa_cons (pv 3) (pa_cons (pe_glob (v := .ref T.c_BadPrices) (by rfl) T.g_BadPrices rfl) pa_nil))) (pa_cons (pe_callB (call_isE T.e_BadText (L2N.Zn.zc hz) hf') (by rfl) T.n_isinstance (by decide +kernel) (pa_cons (pv 3) (pa_cons (pe_bltn (v := .ty "ValueError") (by rfl) T.n_ValueError (by decide +kernel) rfl) pa_nil))) pa_nil))))))))
          | prc => exact (pss_cons (ps_set (i := 4) scLawTold.nd rfl (by first | exact Or.inl rfl | exact Or.inr rfl) (pe_lst (pa_cons (pe_callB (call_isE T.e_BadPrices (L2N.Zn.zc hz) hf') (by rfl) T.n_isinstance (by decide +kernel) (pa_cons (pv 3) (pa_cons (pe_glob (v := .ref T.c_BadRow) (by rfl) T.g_BadRow rfl) pa_nil))) (pa_cons (pe_callB (call_isE T.e_BadPrices (L2N.Zn.zc hz) hf') (by rfl) T.n_isinstance (by decide +kernel) (pa_cons (pv 3) (pa_cons (pe_glob (v := .ref T.c_NoFilling) (by rfl) T.g_NoFilling rfl) pa_nil))) (pa_cons (pe_callB (call_isE T.e_BadPrices (L2N.Zn.zc hz) hf') (by rfl) T.n_isinstance (by decide +kernel) (pa_cons (pv 3) (pa_cons (pe_glob (v := .ref T.c_BadNumber) (by rfl) T.g_BadNumber rfl) pa_nil))) pa_nil)))))
      (pss_one (ps_ret (pe_op op_cat (pv 4) (pe_lst (pa_cons (pe_callB (call_isE T.e_BadPrices (L2N.Zn.zc hz) hf') (by rfl) T.n_isinstance (by decide +kernel) (pa_cons (pv 3) (pa_cons (pe_glob (v := .ref T.c_BadText) (by rfl) T.g_BadText rfl) pa_nil))) (pa_cons (pe_callB (call_isE T.e_BadPrices (L2N.Zn.zc hz) hf') (by rfl) T.n_isinstance (by decide +kernel) (pa_cons (pv 3) (pa_cons (pe_glob (v := .ref T.c_BadPrices) (by rfl) T.g_BadPrices rfl) pa_nil))) (pa_cons (pe_callB (call_isE T.e_BadPrices (L2N.Zn.zc hz) hf') (by rfl) T.n_isinstance (by decide +kernel) (pa_cons (pv 3) (pa_cons (pe_bltn (v := .ty "ValueError") (by rfl) T.n_ValueError (by decide +kernel) rfl) pa_nil))) pa_nil))))))))))
      (pss_one (ps_ret (pe_lst pa_nil))), ?_⟩
    have suite : ∀ (C a : Addr) (D : Ends) (H1 : Hp) (b0 b1 b2 b3 b4 : Bool), Same H H1 → D.rt = Q → PySem.W.kitOne K (.ref C) (.ref T.c_BadRow) = some b0 → PySem.W.kitOne K (.ref C) (.ref T.c_NoFilling) = some b1 → PySem.W.kitOne K (.ref C) (.ref T.c_BadNumber) = some b2 → PySem.W.kitOne K (.ref C) (.ref T.c_BadText) = some b3 → PySem.W.kitOne K (.ref C) (.ref T.c_BadPrices) = some b4 → PySem.W.kitOne K (.ref C) (.type "ValueError") = some true →
        dueB ki = [b0, b1, b2, b3, b4, true] → tSuiteC T C a D [some (.int ki), some (.int wh), some (.int mo), some (.ref a), none] H1 := by
      intro C a D H1 b0 b1 b2 b3 b4 sm hD k0 k1 k2 k3 k4 k5 hdue
      refine ⟨_, rfl, _, _, b0, rfl, fun _ r => r, k0, ?_⟩
      refine ⟨_, rfl, _, _, b1, rfl, fun _ r => r, k1, ?_⟩
      refine ⟨_, rfl, _, _, b2, rfl, fun _ r => r, k2, ?_⟩
      refine ⟨sz5 (by simp), fun o1 n1 => ?_⟩
      refine ⟨_, rfl, ?_⟩
      refine ⟨_, rfl, _, _, b3, rfl, fun _ r => r, k3, ?_⟩
      refine ⟨_, rfl, _, _, b4, rfl, fun _ r => r, k4, ?_⟩
      refine ⟨_, rfl, _, _, true, rfl, fun _ r => r, k5, ?_⟩
      refine ⟨sz5 (by simp), fun o2 n2 => ?_⟩
      have s1 := Same.new n1 (o := HO.lst [V.bl b0, V.bl b1, V.bl b2])
      have s2 := Same.new n2 (o := HO.lst [V.bl b3, V.bl b4, V.bl true])
      refine ⟨o1, o2, _, _, rfl, rfl, s2 _ _ upd_same, upd_same, sz5 (by simp), fun o3 n3 => ?_⟩
      show D.rt _ _
      rw [hD]
      exact q _ o3 (((sm.trans s1).trans s2).trans (Same.new n3)) (by rw [upd_same, hdue]; rfl)
    refine ⟨_, rfl, rfl, _, rfl, ?_⟩
    rw [d_int]
    by_cases h0 : ki = 0
    · refine iteD h0 ⟨_, rfl, _, rfl, wh, mo, rfl, fun H1 sm => ⟨true, T.s_BadRow, fun _ a na => ⟨.row, ⟨rfl, rfl⟩, ?_⟩, fun z => by cases z⟩⟩
      exact suite _ a _ _ _ _ _ _ _ sm rfl T.i_BadRow_BadRow T.i_BadRow_NoFilling T.i_BadRow_BadNumber T.i_BadRow_BadText T.i_BadRow_BadPrices T.i_BadRow_ValueError (by rw [h0]; rfl)
    refine iteDn h0 ⟨_, rfl, rfl, _, rfl, ?_⟩
    rw [d_int]
    by_cases h1 : ki = 1
    · refine iteD h1 ⟨_, rfl, _, rfl, wh, mo, rfl, fun H1 sm => ⟨true, T.s_NoFilling, fun _ a na => ⟨.fil, ⟨rfl, rfl⟩, ?_⟩, fun z => by cases z⟩⟩
      exact suite _ a _ _ _ _ _ _ _ sm rfl T.i_NoFilling_BadRow T.i_NoFilling_NoFilling T.i_NoFilling_BadNumber T.i_NoFilling_BadText T.i_NoFilling_BadPrices T.i_NoFilling_ValueError (by rw [h1]; rfl)
    refine iteDn h1 ⟨_, rfl, _, rfl, _, rfl, ki, wh, mo, rfl, hmo, fun h H1 sm => ⟨true, T.s_BadNumber, fun _ a na => ⟨.num, ⟨rfl, rfl⟩, ?_⟩, fun z => by cases z⟩, fun h H1 sm => ⟨true, T.s_BadText, fun _ a na => ⟨.txt, ⟨rfl, rfl⟩, ?_⟩, fun z => by cases z⟩, fun h h' H1 sm => ⟨true, T.s_BadPrices, fun _ a na => ⟨.prc, ⟨rfl, rfl⟩, ?_⟩, fun z => by cases z⟩⟩
    · exact suite _ a _ _ _ _ _ _ _ sm rfl T.i_BadNumber_BadRow T.i_BadNumber_NoFilling T.i_BadNumber_BadNumber T.i_BadNumber_BadText T.i_BadNumber_BadPrices T.i_BadNumber_ValueError (by rw [h]; rfl)
    · exact suite _ a _ _ _ _ _ _ _ sm rfl T.i_BadText_BadRow T.i_BadText_NoFilling T.i_BadText_BadNumber T.i_BadText_BadText T.i_BadText_BadPrices T.i_BadText_ValueError (by rw [h]; rfl)
    · exact suite _ a _ _ _ _ _ _ _ sm rfl T.i_BadPrices_BadRow T.i_BadPrices_NoFilling T.i_BadPrices_BadNumber T.i_BadPrices_BadText T.i_BadPrices_BadPrices T.i_BadPrices_ValueError (by rw [show ki = 4 by omega]; rfl)
end
end HT

set_option Elab.async false
set_option linter.all false
set_option maxRecDepth 100000
/-! Rows of rubbed signs counted, one sign more at a time. -/
namespace BR
def stepQ (t : List Nat) : List Nat := (List.range (t.length + 1)).map fun d => t.getD (d + 1) 0 + (if 0 < d then t.getD (d - 1) 0 else 0)
abbrev CntIs (n : Nat) (t : List Nat) : Prop := ∀ d, cnt (List.replicate n 63) d = t.getD d 0
theorem cnt_next {n : Nat} {t u : List Nat} (h : CntIs n t) (hu : stepQ t = u) : CntIs (n + 1) u := by
  intro d
  subst hu
  rw [List.replicate_succ, cntQu, h, h]
  unfold stepQ
  conv => rhs; rw [List.getD_eq_getElem?_getD, List.getElem?_map]
  by_cases hd : d < t.length + 1
  · rw [List.getElem?_range hd]; rfl
  · have e0 : (List.range (t.length + 1))[d]? = none := List.getElem?_eq_none (by rw [List.length_range]; omega)
    rw [e0, List.getD_eq_getElem?_getD, List.getD_eq_getElem?_getD, List.getElem?_eq_none (show t.length ≤ d + 1 by omega), List.getElem?_eq_none (show t.length ≤ d - 1 by omega)]
    split <;> rfl
theorem cnt_r0 : CntIs 0 [1] := fun d => by
  cases d with
  | zero => rfl
  | succ d => rfl
theorem cnt_r1 : CntIs 1 [0, 1] := cnt_next cnt_r0 (by decide +kernel)
theorem cnt_r2 : CntIs 2 [1, 0, 1] := cnt_next cnt_r1 (by decide +kernel)
theorem cnt_r3 : CntIs 3 [0, 2, 0, 1] := cnt_next cnt_r2 (by decide +kernel)
theorem cnt_r4 : CntIs 4 [2, 0, 3, 0, 1] := cnt_next cnt_r3 (by decide +kernel)
theorem cnt_r5 : CntIs 5 [0, 5, 0, 4, 0, 1] := cnt_next cnt_r4 (by decide +kernel)
theorem cnt_r6 : CntIs 6 [5, 0, 9, 0, 5, 0, 1] := cnt_next cnt_r5 (by decide +kernel)
theorem cnt_r7 : CntIs 7 [0, 14, 0, 14, 0, 6, 0, 1] := cnt_next cnt_r6 (by decide +kernel)
theorem cnt_r8 : CntIs 8 [14, 0, 28, 0, 20, 0, 7, 0, 1] := cnt_next cnt_r7 (by decide +kernel)
theorem cnt_r9 : CntIs 9 [0, 42, 0, 48, 0, 27, 0, 8, 0, 1] := cnt_next cnt_r8 (by decide +kernel)
theorem cnt_r10 : CntIs 10 [42, 0, 90, 0, 75, 0, 35, 0, 9, 0, 1] := cnt_next cnt_r9 (by decide +kernel)
theorem cnt_r11 : CntIs 11 [0, 132, 0, 165, 0, 110, 0, 44, 0, 10, 0, 1] := cnt_next cnt_r10 (by decide +kernel)
theorem cnt_r12 : CntIs 12 [132, 0, 297, 0, 275, 0, 154, 0, 54, 0, 11, 0, 1] := cnt_next cnt_r11 (by decide +kernel)
theorem cnt_r13 : CntIs 13 [0, 429, 0, 572, 0, 429, 0, 208, 0, 65, 0, 12, 0, 1] := cnt_next cnt_r12 (by decide +kernel)
theorem cnt_r14 : CntIs 14 [429, 0, 1001, 0, 1001, 0, 637, 0, 273, 0, 77, 0, 13, 0, 1] := cnt_next cnt_r13 (by decide +kernel)
theorem cnt_r15 : CntIs 15 [0, 1430, 0, 2002, 0, 1638, 0, 910, 0, 350, 0, 90, 0, 14, 0, 1] := cnt_next cnt_r14 (by decide +kernel)
theorem cnt_r16 : CntIs 16 [1430, 0, 3432, 0, 3640, 0, 2548, 0, 1260, 0, 440, 0, 104, 0, 15, 0, 1] := cnt_next cnt_r15 (by decide +kernel)
theorem cnt_r17 : CntIs 17 [0, 4862, 0, 7072, 0, 6188, 0, 3808, 0, 1700, 0, 544, 0, 119, 0, 16, 0, 1] := cnt_next cnt_r16 (by decide +kernel)
theorem cnt_r18 : CntIs 18 [4862, 0, 11934, 0, 13260, 0, 9996, 0, 5508, 0, 2244, 0, 663, 0, 135, 0, 17, 0, 1] := cnt_next cnt_r17 (by decide +kernel)
theorem cnt_r19 : CntIs 19 [0, 16796, 0, 25194, 0, 23256, 0, 15504, 0, 7752, 0, 2907, 0, 798, 0, 152, 0, 18, 0, 1] := cnt_next cnt_r18 (by decide +kernel)
theorem cnt_r20 : CntIs 20 [16796, 0, 41990, 0, 48450, 0, 38760, 0, 23256, 0, 10659, 0, 3705, 0, 950, 0, 170, 0, 19, 0, 1] := cnt_next cnt_r19 (by decide +kernel)
theorem cnt_r21 : CntIs 21 [0, 58786, 0, 90440, 0, 87210, 0, 62016, 0, 33915, 0, 14364, 0, 4655, 0, 1120, 0, 189, 0, 20, 0, 1] := cnt_next cnt_r20 (by decide +kernel)
theorem cnt_r22 : CntIs 22 [58786, 0, 149226, 0, 177650, 0, 149226, 0, 95931, 0, 48279, 0, 19019, 0, 5775, 0, 1309, 0, 209, 0, 21, 0, 1] := cnt_next cnt_r21 (by decide +kernel)
theorem cnt_r23 : CntIs 23 [0, 208012, 0, 326876, 0, 326876, 0, 245157, 0, 144210, 0, 67298, 0, 24794, 0, 7084, 0, 1518, 0, 230, 0, 22, 0, 1] := cnt_next cnt_r22 (by decide +kernel)
theorem cnt_r24 : CntIs 24 [208012, 0, 534888, 0, 653752, 0, 572033, 0, 389367, 0, 211508, 0, 92092, 0, 31878, 0, 8602, 0, 1748, 0, 252, 0, 23, 0, 1] := cnt_next cnt_r23 (by decide +kernel)
theorem cnt_r25 : CntIs 25 [0, 742900, 0, 1188640, 0, 1225785, 0, 961400, 0, 600875, 0, 303600, 0, 123970, 0, 40480, 0, 10350, 0, 2000, 0, 275, 0, 24, 0, 1] := cnt_next cnt_r24 (by decide +kernel)
theorem cnt_r26 : CntIs 26 [742900, 0, 1931540, 0, 2414425, 0, 2187185, 0, 1562275, 0, 904475, 0, 427570, 0, 164450, 0, 50830, 0, 12350, 0, 2275, 0, 299, 0, 25, 0, 1] := cnt_next cnt_r25 (by decide +kernel)
theorem cnt_r27 : CntIs 27 [0, 2674440, 0, 4345965, 0, 4601610, 0, 3749460, 0, 2466750, 0, 1332045, 0, 592020, 0, 215280, 0, 63180, 0, 14625, 0, 2574, 0, 324, 0, 26, 0, 1] := cnt_next cnt_r26 (by decide +kernel)
theorem cnt_r28 : CntIs 28 [2674440, 0, 7020405, 0, 8947575, 0, 8351070, 0, 6216210, 0, 3798795, 0, 1924065, 0, 807300, 0, 278460, 0, 77805, 0, 17199, 0, 2898, 0, 350, 0, 27, 0, 1] := cnt_next cnt_r27 (by decide +kernel)
theorem cnt_r29 : CntIs 29 [0, 9694845, 0, 15967980, 0, 17298645, 0, 14567280, 0, 10015005, 0, 5722860, 0, 2731365, 0, 1085760, 0, 356265, 0, 95004, 0, 20097, 0, 3248, 0, 377, 0, 28, 0, 1] := cnt_next cnt_r28 (by decide +kernel)
theorem cnt_r30 : CntIs 30 [9694845, 0, 25662825, 0, 33266625, 0, 31865925, 0, 24582285, 0, 15737865, 0, 8454225, 0, 3817125, 0, 1442025, 0, 451269, 0, 115101, 0, 23345, 0, 3625, 0, 405, 0, 29, 0, 1] := cnt_next cnt_r29 (by decide +kernel)
theorem cnt_r31 : CntIs 31 [0, 35357670, 0, 58929450, 0, 65132550, 0, 56448210, 0, 40320150, 0, 24192090, 0, 12271350, 0, 5259150, 0, 1893294, 0, 566370, 0, 138446, 0, 26970, 0, 4030, 0, 434, 0, 30, 0, 1] := cnt_next cnt_r30 (by decide +kernel)
theorem cnt_r32 : CntIs 32 [35357670, 0, 94287120, 0, 124062000, 0, 121580760, 0, 96768360, 0, 64512240, 0, 36463440, 0, 17530500, 0, 7152444, 0, 2459664, 0, 704816, 0, 165416, 0, 31000, 0, 4464, 0, 464, 0, 31, 0, 1] := cnt_next cnt_r31 (by decide +kernel)
theorem cnt_r33 : CntIs 33 [0, 129644790, 0, 218349120, 0, 245642760, 0, 218349120, 0, 161280600, 0, 100975680, 0, 53993940, 0, 24682944, 0, 9612108, 0, 3164480, 0, 870232, 0, 196416, 0, 35464, 0, 4928, 0, 495, 0, 32, 0, 1] := cnt_next cnt_r32 (by decide +kernel)
theorem cnt_r34 : CntIs 34 [129644790, 0, 347993910, 0, 463991880, 0, 463991880, 0, 379629720, 0, 262256280, 0, 154969620, 0, 78676884, 0, 34295052, 0, 12776588, 0, 4034712, 0, 1066648, 0, 231880, 0, 40392, 0, 5423, 0, 527, 0, 33, 0, 1] := cnt_next cnt_r33 (by decide +kernel)
theorem cnt_r35 : CntIs 35 [0, 477638700, 0, 811985790, 0, 927983760, 0, 843621600, 0, 641886000, 0, 417225900, 0, 233646504, 0, 112971936, 0, 47071640, 0, 16811300, 0, 5101360, 0, 1298528, 0, 272272, 0, 45815, 0, 5950, 0, 560, 0, 34, 0, 1] := cnt_next cnt_r34 (by decide +kernel)
theorem cnt_r36 : CntIs 36 [477638700, 0, 1289624490, 0, 1739969550, 0, 1771605360, 0, 1485507600, 0, 1059111900, 0, 650872404, 0, 346618440, 0, 160043576, 0, 63882940, 0, 21912660, 0, 6399888, 0, 1570800, 0, 318087, 0, 51765, 0, 6510, 0, 594, 0, 35, 0, 1] := cnt_next cnt_r35 (by decide +kernel)
theorem cnt_r37 : CntIs 37 [0, 1767263190, 0, 3029594040, 0, 3511574910, 0, 3257112960, 0, 2544619500, 0, 1709984304, 0, 997490844, 0, 506662016, 0, 223926516, 0, 85795600, 0, 28312548, 0, 7970688, 0, 1888887, 0, 369852, 0, 58275, 0, 7104, 0, 629, 0, 36, 0, 1] := cnt_next cnt_r36 (by decide +kernel)
theorem cnt_r38 : CntIs 38 [1767263190, 0, 4796857230, 0, 6541168950, 0, 6768687870, 0, 5801732460, 0, 4254603804, 0, 2707475148, 0, 1504152860, 0, 730588532, 0, 309722116, 0, 114108148, 0, 36283236, 0, 9859575, 0, 2258739, 0, 428127, 0, 65379, 0, 7733, 0, 665, 0, 37, 0, 1] := cnt_next cnt_r37 (by decide +kernel)
theorem cnt_r39 : CntIs 39 [0, 6564120420, 0, 11338026180, 0, 13309856820, 0, 12570420330, 0, 10056336264, 0, 6962078952, 0, 4211628008, 0, 2234741392, 0, 1040310648, 0, 423830264, 0, 150391384, 0, 46142811, 0, 12118314, 0, 2686866, 0, 493506, 0, 73112, 0, 8398, 0, 702, 0, 38, 0, 1] := cnt_next cnt_r38 (by decide +kernel)
theorem cnt_r40 : CntIs 40 [6564120420, 0, 17902146600, 0, 24647883000, 0, 25880277150, 0, 22626756594, 0, 17018415216, 0, 11173706960, 0, 6446369400, 0, 3275052040, 0, 1464140912, 0, 574221648, 0, 196534195, 0, 58261125, 0, 14805180, 0, 3180372, 0, 566618, 0, 81510, 0, 9100, 0, 740, 0, 39, 0, 1] := cnt_next cnt_r39 (by decide +kernel)
theorem cnt_r41 : CntIs 41 [0, 24466267020, 0, 42550029600, 0, 50528160150, 0, 48507033744, 0, 39645171810, 0, 28192122176, 0, 17620076360, 0, 9721421440, 0, 4739192952, 0, 2038362560, 0, 770755843, 0, 254795320, 0, 73066305, 0, 17985552, 0, 3746990, 0, 648128, 0, 90610, 0, 9840, 0, 779, 0, 40, 0, 1] := cnt_next cnt_r40 (by decide +kernel)
theorem cnt_r42 : CntIs 42 [24466267020, 0, 67016296620, 0, 93078189750, 0, 99035193894, 0, 88152205554, 0, 67837293986, 0, 45812198536, 0, 27341497800, 0, 14460614392, 0, 6777555512, 0, 2809118403, 0, 1025551163, 0, 327861625, 0, 91051857, 0, 21732542, 0, 4395118, 0, 738738, 0, 100450, 0, 10619, 0, 819, 0, 41, 0, 1] := cnt_next cnt_r41 (by decide +kernel)
theorem cnt_r43 : CntIs 43 [0, 91482563640, 0, 160094486370, 0, 192113383644, 0, 187187399448, 0, 155989499540, 0, 113649492522, 0, 73153696336, 0, 41802112192, 0, 21238169904, 0, 9586673915, 0, 3834669566, 0, 1353412788, 0, 418913482, 0, 112784399, 0, 26127660, 0, 5133856, 0, 839188, 0, 111069, 0, 11438, 0, 860, 0, 42, 0, 1] := cnt_next cnt_r42 (by decide +kernel)
theorem cnt_r44 : CntIs 44 [91482563640, 0, 251577050010, 0, 352207870014, 0, 379300783092, 0, 343176898988, 0, 269638992062, 0, 186803188858, 0, 114955808528, 0, 63040282096, 0, 30824843819, 0, 13421343481, 0, 5188082354, 0, 1772326270, 0, 531697881, 0, 138912059, 0, 31261516, 0, 5973044, 0, 950257, 0, 122507, 0, 12298, 0, 902, 0, 43, 0, 1] := cnt_next cnt_r43 (by decide +kernel)
theorem cnt_r45 : CntIs 45 [0, 343059613650, 0, 603784920024, 0, 731508653106, 0, 722477682080, 0, 612815891050, 0, 456442180920, 0, 301758997386, 0, 177996090624, 0, 93865125915, 0, 44246187300, 0, 18609425835, 0, 6960408624, 0, 2304024151, 0, 670609940, 0, 170173575, 0, 37234560, 0, 6923301, 0, 1072764, 0, 134805, 0, 13200, 0, 945, 0, 44, 0, 1] := cnt_next cnt_r44 (by decide +kernel)
theorem cnt_r46 : CntIs 46 [343059613650, 0, 946844533674, 0, 1335293573130, 0, 1453986335186, 0, 1335293573130, 0, 1069258071970, 0, 758201178306, 0, 479755088010, 0, 271861216539, 0, 138111313215, 0, 62855613135, 0, 25569834459, 0, 9264432775, 0, 2974634091, 0, 840783515, 0, 207408135, 0, 44157861, 0, 7996065, 0, 1207569, 0, 148005, 0, 14145, 0, 989, 0, 45, 0, 1] := cnt_next cnt_r45 (by decide +kernel)
theorem cnt_r47 : CntIs 47 [0, 1289904147324, 0, 2282138106804, 0, 2789279908316, 0, 2789279908316, 0, 2404551645100, 0, 1827459250276, 0, 1237956266316, 0, 751616304549, 0, 409972529754, 0, 200966926350, 0, 88425447594, 0, 34834267234, 0, 12239066866, 0, 3815417606, 0, 1048191650, 0, 251565996, 0, 52153926, 0, 9203634, 0, 1355574, 0, 162150, 0, 15134, 0, 1034, 0, 46, 0, 1] := cnt_next cnt_r46 (by decide +kernel)
theorem cnt_r48 : CntIs 48 [1289904147324, 0, 3572042254128, 0, 5071418015120, 0, 5578559816632, 0, 5193831553416, 0, 4232010895376, 0, 3065415516592, 0, 1989572570865, 0, 1161588834303, 0, 610939456104, 0, 289392373944, 0, 123259714828, 0, 47073334100, 0, 16054484472, 0, 4863609256, 0, 1299757646, 0, 303719922, 0, 61357560, 0, 10559208, 0, 1517724, 0, 177284, 0, 16168, 0, 1080, 0, 47, 0, 1] := cnt_next cnt_r47 (by decide +kernel)
theorem cnt_r49 : CntIs 49 [0, 4861946401452, 0, 8643460269248, 0, 10649977831752, 0, 10772391370048, 0, 9425842448792, 0, 7297426411968, 0, 5054988087457, 0, 3151161405168, 0, 1772528290407, 0, 900331830048, 0, 412652088772, 0, 170333048928, 0, 63127818572, 0, 20918093728, 0, 6163366902, 0, 1603477568, 0, 365077482, 0, 71916768, 0, 12076932, 0, 1695008, 0, 193452, 0, 17248, 0, 1127, 0, 48, 0, 1] := cnt_next cnt_r48 (by decide +kernel)
theorem cnt_r50 : CntIs 50 [4861946401452, 0, 13505406670700, 0, 19293438101000, 0, 21422369201800, 0, 20198233818840, 0, 16723268860760, 0, 12352414499425, 0, 8206149492625, 0, 4923689695575, 0, 2672860120455, 0, 1312983918820, 0, 582985137700, 0, 233460867500, 0, 84045912300, 0, 27081460630, 0, 7766844470, 0, 1968555050, 0, 436994250, 0, 83993700, 0, 13771940, 0, 1888460, 0, 210700, 0, 18375, 0, 1175, 0, 49, 0, 1] := cnt_next cnt_r49 (by decide +kernel)
theorem cnt_r51 : CntIs 51 [0, 18367353072152, 0, 32798844771700, 0, 40715807302800, 0, 41620603020640, 0, 36921502679600, 0, 29075683360185, 0, 20558563992050, 0, 13129839188200, 0, 7596549816030, 0, 3985844039275, 0, 1895969056520, 0, 816446005200, 0, 317506779800, 0, 111127372930, 0, 34848305100, 0, 9735399520, 0, 2405549300, 0, 520987950, 0, 97765640, 0, 15660400, 0, 2099160, 0, 229075, 0, 19550, 0, 1224, 0, 50, 0, 1] := cnt_next cnt_r50 (by decide +kernel)
theorem cnt_r52 : CntIs 52 [18367353072152, 0, 51166197843852, 0, 73514652074500, 0, 82336410323440, 0, 78542105700240, 0, 65997186039785, 0, 49634247352235, 0, 33688403180250, 0, 20726389004230, 0, 11582393855305, 0, 5881813095795, 0, 2712415061720, 0, 1133952785000, 0, 428634152730, 0, 145975678030, 0, 44583704620, 0, 12140948820, 0, 2926537250, 0, 618753590, 0, 113426040, 0, 17759560, 0, 2328235, 0, 248625, 0, 20774, 0, 1274, 0, 51, 0, 1] := cnt_next cnt_r51 (by decide +kernel)
theorem cnt_r53 : CntIs 53 [0, 69533550916004, 0, 124680849918352, 0, 155851062397940, 0, 160878516023680, 0, 144539291740025, 0, 115631433392020, 0, 83322650532485, 0, 54414792184480, 0, 32308782859535, 0, 17464206951100, 0, 8594228157515, 0, 3846367846720, 0, 1562586937730, 0, 574609830760, 0, 190559382650, 0, 56724653440, 0, 15067486070, 0, 3545290840, 0, 732179630, 0, 131185600, 0, 20087795, 0, 2576860, 0, 269399, 0, 22048, 0, 1325, 0, 52, 0, 1] := cnt_next cnt_r52 (by decide +kernel)
theorem cnt_r54 : CntIs 54 [69533550916004, 0, 194214400834356, 0, 280531912316292, 0, 316729578421620, 0, 305417807763705, 0, 260170725132045, 0, 198954083924505, 0, 137737442716965, 0, 86723575044015, 0, 49772989810635, 0, 26058435108615, 0, 12440596004235, 0, 5408954784450, 0, 2137196768490, 0, 765169213410, 0, 247284036090, 0, 71792139510, 0, 18612776910, 0, 4277470470, 0, 863365230, 0, 151273395, 0, 22664655, 0, 2846259, 0, 291447, 0, 23373, 0, 1377, 0, 53, 0, 1] := cnt_next cnt_r53 (by decide +kernel)
theorem cnt_r55 : CntIs 55 [0, 263747951750360, 0, 474746313150648, 0, 597261490737912, 0, 622147386185325, 0, 565588532895750, 0, 459124809056550, 0, 336691526641470, 0, 224461017760980, 0, 136496564854650, 0, 75831424919250, 0, 38499031112850, 0, 17849550788685, 0, 7546151552940, 0, 2902365981900, 0, 1012453249500, 0, 319076175600, 0, 90404916420, 0, 22890247380, 0, 5140835700, 0, 1014638625, 0, 173938050, 0, 25510914, 0, 3137706, 0, 314820, 0, 24750, 0, 1430, 0, 54, 0, 1] := cnt_next cnt_r54 (by decide +kernel)
theorem cnt_r56 : CntIs 56 [263747951750360, 0, 738494264901008, 0, 1072007803888560, 0, 1219408876923237, 0, 1187735919081075, 0, 1024713341952300, 0, 795816335698020, 0, 561152544402450, 0, 360957582615630, 0, 212327989773900, 0, 114330456032100, 0, 56348581901535, 0, 25395702341625, 0, 10448517534840, 0, 3914819231400, 0, 1331529425100, 0, 409481092020, 0, 113295163800, 0, 28031083080, 0, 6155474325, 0, 1188576675, 0, 199448964, 0, 28648620, 0, 3452526, 0, 339570, 0, 26180, 0, 1484, 0, 55, 0, 1] := cnt_next cnt_r55 (by decide +kernel)
theorem cnt_r57 : CntIs 57 [0, 1002242216651368, 0, 1810502068789568, 0, 2291416680811797, 0, 2407144796004312, 0, 2212449261033375, 0, 1820529677650320, 0, 1356968880100470, 0, 922110127018080, 0, 573285572389530, 0, 326658445806000, 0, 170679037933635, 0, 81744284243160, 0, 35844219876465, 0, 14363336766240, 0, 5246348656500, 0, 1741010517120, 0, 522776255820, 0, 141326246880, 0, 34186557405, 0, 7344051000, 0, 1388025639, 0, 228097584, 0, 32101146, 0, 3792096, 0, 365750, 0, 27664, 0, 1539, 0, 56, 0, 1] := cnt_next cnt_r56 (by decide +kernel)
theorem cnt_r58 : CntIs 58 [1002242216651368, 0, 2812744285440936, 0, 4101918749601365, 0, 4698561476816109, 0, 4619594057037687, 0, 4032978938683695, 0, 3177498557750790, 0, 2279079007118550, 0, 1495395699407610, 0, 899944018195530, 0, 497337483739635, 0, 252423322176795, 0, 117588504119625, 0, 50207556642705, 0, 19609685422740, 0, 6987359173620, 0, 2263786772940, 0, 664102502700, 0, 175512804285, 0, 41530608405, 0, 8732076639, 0, 1616123223, 0, 260198730, 0, 35893242, 0, 4157846, 0, 393414, 0, 29203, 0, 1595, 0, 57, 0, 1] := cnt_next cnt_r57 (by decide +kernel)
theorem cnt_r59 : CntIs 59 [0, 3814986502092304, 0, 6914663035042301, 0, 8800480226417474, 0, 9318155533853796, 0, 8652572995721382, 0, 7210477496434485, 0, 5456577564869340, 0, 3774474706526160, 0, 2395339717603140, 0, 1397281501935165, 0, 749760805916430, 0, 370011826296420, 0, 167796060762330, 0, 69817242065445, 0, 26597044596360, 0, 9251145946560, 0, 2927889275640, 0, 839615306985, 0, 217043412690, 0, 50262685044, 0, 10348199862, 0, 1876321953, 0, 296091972, 0, 40051088, 0, 4551260, 0, 422617, 0, 30798, 0, 1652, 0, 58, 0, 1] := cnt_next cnt_r58 (by decide +kernel)
theorem cnt_r60 : CntIs 60 [3814986502092304, 0, 10729649537134605, 0, 15715143261459775, 0, 18118635760271270, 0, 17970728529575178, 0, 15863050492155867, 0, 12667055061303825, 0, 9231052271395500, 0, 6169814424129300, 0, 3792621219538305, 0, 2147042307851595, 0, 1119772632212850, 0, 537807887058750, 0, 237613302827775, 0, 96414286661805, 0, 35848190542920, 0, 12179035222200, 0, 3767504582625, 0, 1056658719675, 0, 267306097734, 0, 60610884906, 0, 12224521815, 0, 2172413925, 0, 336143060, 0, 44602348, 0, 4973877, 0, 453415, 0, 32450, 0, 1710, 0, 59, 0, 1] := cnt_next cnt_r59 (by decide +kernel)
theorem cnt_20 : cnt (List.replicate 20 63) 0 = 16796 := cnt_r20 0
theorem cnt_60 : cnt (List.replicate 60 63) 0 = 3814986502092304 := cnt_r60 0
end BR

set_option Elab.async false
set_option linter.all false
set_option maxRecDepth 100000
set_option maxHeartbeats 4000000
/-! Dicts that tell how many ways lead to each depth. -/
namespace L2
open PySem PySem.Spec PyProof.Rows
def cD (ks : List (Nat × Nat)) : List (Key × V) := ks.map fun e : Nat × Nat => ((Sum.inl (e.1 : Int) : Key), V.int (e.2 : Int))
def getN : List (Nat × Nat) → Nat → Nat
  | [], _ => 0
  | (a, v) :: r, k => if a = k then v else getN r k
def addN : List (Nat × Nat) → Nat → Nat → List (Nat × Nat)
  | [], k, v => [(k, v)]
  | (a, u) :: r, k, v => if a = k then (a, u + v) :: r else (a, u) :: addN r k v
def phi (s : List Nat) : List (Nat × Nat) → Nat
  | [] => 0
  | (a, v) :: r => v * BR.cnt s a + phi s r
theorem phi_app (s : List Nat) : ∀ a b : List (Nat × Nat), phi s (a ++ b) = phi s a + phi s b
  | [], b => by simp [phi]
  | (a, v) :: r, b => by simp only [phi, List.cons_append, phi_app s r b]; omega
theorem phi_add (s : List Nat) (k v : Nat) : ∀ ks : List (Nat × Nat), phi s (addN ks k v) = phi s ks + v * BR.cnt s k
  | [] => by simp [phi, addN]
  | (a, u) :: r => by
    unfold addN
    by_cases h : a = k
    · rw [if_pos h]
      simp only [phi, h, Nat.add_mul]; omega
    · rw [if_neg h]
      simp only [phi, phi_add s k v r]; omega
theorem keys_addN {k v : Nat} : ∀ (ks : List (Nat × Nat)) (d : Nat), d ∈ (addN ks k v).map (·.1) ↔ d ∈ ks.map (·.1) ∨ d = k
  | [], d => by simp [addN]
  | (a, u) :: r, d => by
    unfold addN
    by_cases h : a = k
    · rw [if_pos h]
      simp only [List.map_cons, List.mem_cons]
      constructor
      · exact .inl
      · exact fun h' => h'.elim id fun e => .inl (e.trans h.symm)
    · rw [if_neg h]
      simp only [List.map_cons, List.mem_cons, keys_addN r d, or_assoc]
theorem nodup_addN {k v : Nat} : ∀ (ks : List (Nat × Nat)), (ks.map (·.1)).Nodup → ((addN ks k v).map (·.1)).Nodup
  | [], _ => by simp [addN]
  | (a, u) :: r, hn => by
    rw [List.map_cons, List.nodup_cons] at hn
    unfold addN
    by_cases h : a = k
    · rw [if_pos h, List.map_cons, List.nodup_cons]; exact hn
    · rw [if_neg h, List.map_cons, List.nodup_cons]
      refine ⟨fun hm => ?_, nodup_addN r hn.2⟩
      rcases (keys_addN r a).mp hm with h1 | h1
      · exact hn.1 h1
      · exact h h1
theorem ne_key {a k : Nat} (h : ¬ a = k) : ¬ ((Sum.inl (a : Int) : Key) = Sum.inl (k : Int)) := by rw [inl_inj]; omega
theorem get_cD (k : Nat) : ∀ ks : List (Nat × Nat), (valV (cD ks) (Sum.inl (k : Int) : Key)).getD (V.int 0) = V.int ((getN ks k : Nat) : Int)
  | [] => rfl
  | (a, v) :: r => by
    show (valV (((Sum.inl (a : Int) : Key), V.int (v : Int)) :: cD r) (Sum.inl (k : Int))).getD (V.int 0) = _
    unfold getN
    by_cases h : a = k
    · rw [valV_pos (by rw [h]), if_pos h]; rfl
    · rw [valV_neg (ne_key h), if_neg h]; exact get_cD k r
theorem mem_cD {k v : Nat} : ∀ ks : List (Nat × Nat), (ks.map (·.1)).Nodup → (k, v) ∈ ks → valV (cD ks) (Sum.inl (k : Int) : Key) = some (V.int (v : Int))
  | [], _, h => by cases h
  | (a, u) :: r, hn, h => by
    rw [List.map_cons, List.nodup_cons] at hn
    show valV (((Sum.inl (a : Int) : Key), V.int (u : Int)) :: cD r) (Sum.inl (k : Int)) = _
    rcases List.mem_cons.mp h with h | h
    · cases h
      rw [valV_pos rfl]
    · have hne : ¬ a = k := fun e => hn.1 (by rw [e]; exact List.mem_map.mpr ⟨(k, v), h, rfl⟩)
      rw [valV_neg (ne_key hne)]
      exact mem_cD r hn.2 h
theorem map_no (k : Nat) (y : V) : ∀ ks : List (Nat × Nat), ¬ k ∈ ks.map (·.1) → (cD ks).map (fun kv => if kv.1 = (Sum.inl (k : Int) : Key) then (kv.1, y) else kv) = cD ks
  | [], _ => rfl
  | (a, u) :: r, h => by
    rw [List.map_cons, List.mem_cons] at h
    show (if (Sum.inl (a : Int) : Key) = Sum.inl (k : Int) then _ else ((Sum.inl (a : Int) : Key), V.int (u : Int))) :: (cD r).map _ = ((Sum.inl (a : Int) : Key), V.int (u : Int)) :: cD r
    rw [if_neg (ne_key fun e => h (.inl e.symm)), map_no k y r fun e => h (.inr e)]
theorem any_cD (k : Nat) : ∀ ks : List (Nat × Nat), ((cD ks).any fun kv => decide (kv.1 = (Sum.inl (k : Int) : Key))) = decide (k ∈ ks.map (·.1))
  | [] => rfl
  | (a, u) :: r => by
    show (decide ((Sum.inl (a : Int) : Key) = Sum.inl (k : Int)) || (cD r).any _) = _
    rw [any_cD k r, ← Bool.decide_or, decide_eq_decide, List.map_cons, List.mem_cons]
    constructor
    · rintro (h | h)
      · rw [inl_inj] at h; exact .inl (by omega)
      · exact .inr h
    · rintro (h | h)
      · exact .inl (by rw [h])
      · exact .inr h
theorem put_cD (k v : Nat) : ∀ ks : List (Nat × Nat), (ks.map (·.1)).Nodup → putK (cD ks) (Sum.inl (k : Int) : Key) (V.int ((getN ks k : Nat) + (v : Int))) = cD (addN ks k v)
  | [], _ => by
    show _ = [((Sum.inl (k : Int) : Key), V.int (v : Int))]
    show [((Sum.inl (k : Int) : Key), V.int (((0 : Nat) : Int) + (v : Int)))] = _
    rw [show ((0 : Nat) : Int) + (v : Int) = (v : Int) by omega]
  | (a, u) :: r, hn => by
    rw [List.map_cons, List.nodup_cons] at hn
    have ih := put_cD k v r hn.2
    unfold putK at ih ⊢
    rw [any_cD] at ih ⊢
    by_cases h : a = k
    · have hg : getN ((a, u) :: r) k = u := by unfold getN; rw [if_pos h]
      have ha : addN ((a, u) :: r) k v = (a, u + v) :: r := by unfold addN; rw [if_pos h]
      rw [hg, ha, decide_eq_true (by rw [List.map_cons, List.mem_cons]; exact .inl h.symm), if_pos rfl]
      show (if (Sum.inl (a : Int) : Key) = Sum.inl (k : Int) then ((Sum.inl (a : Int) : Key), V.int ((u : Int) + (v : Int))) else _) :: (cD r).map _ = ((Sum.inl (a : Int) : Key), V.int ((u + v : Nat) : Int)) :: cD r
      rw [if_pos (by rw [h]), map_no k _ r (by rw [← h]; exact hn.1), Int.natCast_add]
    · have hg : getN ((a, u) :: r) k = getN r k := by
        show (if a = k then u else getN r k) = _
        rw [if_neg h]
      have ha : addN ((a, u) :: r) k v = (a, u) :: addN r k v := by
        show (if a = k then _ else _) = _
        rw [if_neg h]
      rw [hg, ha]
      by_cases hm : k ∈ r.map (·.1)
      · rw [decide_eq_true hm, if_pos rfl] at ih
        rw [decide_eq_true (by rw [List.map_cons, List.mem_cons]; exact .inr hm), if_pos rfl]
        show (if (Sum.inl (a : Int) : Key) = Sum.inl (k : Int) then _ else ((Sum.inl (a : Int) : Key), V.int (u : Int))) :: (cD r).map _ = ((Sum.inl (a : Int) : Key), V.int (u : Int)) :: cD (addN r k v)
        rw [if_neg (ne_key h), ih]
      · rw [decide_eq_false hm, if_neg (by decide)] at ih
        rw [decide_eq_false (by rw [List.map_cons, List.mem_cons]; exact fun e => e.elim (fun e => h e.symm) hm), if_neg (by decide)]
        show ((Sum.inl (a : Int) : Key), V.int (u : Int)) :: (cD r ++ _) = ((Sum.inl (a : Int) : Key), V.int (u : Int)) :: cD (addN r k v)
        rw [ih]
theorem cD_len (ks : List (Nat × Nat)) : (cD ks).length = ks.length := by unfold cD; rw [List.length_map]
theorem phi_nil : ∀ ks : List (Nat × Nat), (ks.map (·.1)).Nodup → phi [] ks = getN ks 0
  | [], _ => rfl
  | (a, v) :: r, hn => by
    rw [List.map_cons, List.nodup_cons] at hn
    show v * BR.cnt [] a + phi [] r = if a = 0 then v else getN r 0
    rw [phi_nil r hn.2]
    by_cases h : a = 0
    · have : getN r 0 = 0 := by
        have hn1 : ¬ 0 ∈ r.map (·.1) := by rw [← h]; exact hn.1
        clear hn
        induction r with
        | nil => rfl
        | cons e r ih =>
          obtain ⟨b, u⟩ := e
          rw [List.map_cons, List.mem_cons] at hn1
          show (if b = 0 then u else getN r 0) = 0
          rw [if_neg (fun e => hn1 (.inl e.symm)), ih fun e => hn1 (.inr e)]
      rw [if_pos h, this, h]
      simp [BR.cnt]
    · rw [if_neg h]
      simp [BR.cnt, h]
theorem keys_len (ks : List (Nat × Nat)) (N : Nat) (hn : (ks.map (·.1)).Nodup) (hb : ∀ d ∈ ks.map (·.1), d < N) : ks.length ≤ N := by
  have := nodup_len N _ hn hb
  rwa [List.length_map] at this
section
variable {g : TG} {tb : TS} {D : Ends} {σ : St} {H : Hp}
theorem for_keysC {ks : List (Nat × Nat)} {d : Addr} {od : Obj} (Pv : List (Nat × Nat) → St → Hp → Prop) (h0 : Pv [] σ H) (hl : ∀ p σ H, Pv p σ H → H d = some (.frz od (.dK (cD ks))))
    (hs : ∀ p c r σ H, ks = p ++ c :: r → Pv p σ H → g (.int (c.1 : Nat)) σ H fun σ2 H2 => tb { D with nx := Pv (p ++ [c]), ct := Pv (p ++ [c]), bk := D.nx } σ2 H2) (hd : ∀ σ H, Pv ks σ H → D.nx σ H) : LoopOk (Itk d od (cD ks)) g tb D σ H := by
  refine for_it (walk_keys (d := d) (o := od) (kvs := cD ks)) (fun i σ H => Pv (ks.take i) σ H) h0 (fun _ _ _ _ p => hl _ _ _ p) (fun i x σ H H' hi p y => ?_) (fun σ H p => hd σ H ?_)
  · obtain ⟨rfl, k, v, hk, rfl⟩ := y
    unfold cD at hk
    rw [List.getElem?_map] at hk
    cases hc : ks[i]? with
    | none => rw [hc] at hk; cases hk
    | some c =>
      rw [hc] at hk
      cases hk
      obtain ⟨e1, e2, e3⟩ := take_split hc
      rw [e2]
      exact hs _ c _ σ _ e1 p
  · have e : ks.take (cD ks).length = ks := List.take_of_length_le (by rw [cD_len]; exact Nat.le_refl _)
    rw [e] at p
    exact p
end
theorem eqvAll_bls : ∀ a b : List Bool, PyData.eqvAll (a.map PyData.bool) (b.map PyData.bool) = decide (a = b)
  | [], [] => rfl
  | [], _ :: _ => rfl
  | _ :: _, [] => rfl
  | x :: a, y :: b => by
    show (PyData.eqv (.bool x) (.bool y) && PyData.eqvAll (a.map PyData.bool) (b.map PyData.bool)) = _
    rw [eqvAll_bls a b]
    show ((x == y) && _) = _
    cases x <;> cases y <;> simp
theorem canLay_bls : ∀ a : List Bool, PyData.canLayAll0 (a.map PyData.bool) = true
  | [] => rfl
  | x :: a => by
    show (PyData.canLay0 (.bool x) && PyData.canLayAll0 (a.map PyData.bool)) = true
    rw [canLay_bls a]; rfl
theorem depth_bls : ∀ a : List Bool, PyData.depthAll (a.map PyData.bool) = 0
  | [] => rfl
  | x :: a => by
    show max (PyData.depth (.bool x)) (PyData.depthAll (a.map PyData.bool)) = 0
    rw [depth_bls a]; rfl
theorem shaped_bls (a : List Bool) : SeqAt.shaped (.list (a.map PyData.bool)) = true := by
  unfold SeqAt.shaped
  have h1 : PyData.canLay0 (.list (a.map PyData.bool)) = true := canLay_bls a
  have h2 : PyData.depth (.list (a.map PyData.bool)) = 1 := by
    show PyData.depthAll (a.map PyData.bool) + 1 = 1
    rw [depth_bls]
  rw [h1, h2]; rfl
theorem dp_bls {K : PySem.W.Frag} {H : Hp} : ∀ a : List Bool, DpAll K H (a.map V.bl) (a.map PyData.bool)
  | [] => .nil
  | x :: a => .cons (.bl x) (dp_bls a)
theorem rd_eqB {K : PySem.W.Frag} {H : Hp} {Q : VK} {p q : Addr} {a b : List Bool} (h1 : SqL K H p (a.map V.bl)) (h2 : SqL K H q (b.map V.bl)) (k : Q (.bl (decide (a = b))) H) : rEqD K (.ref p) (.ref q) H Q := by
  refine ⟨_, _, .lst h1 (dp_bls a), .lst h2 (dp_bls b), shaped_bls a, shaped_bls b, ?_⟩
  have e : PyData.eqv (.list (a.map PyData.bool)) (.list (b.map PyData.bool)) = decide (a = b) := by
    rw [PyData.eqv]; exact eqvAll_bls a b
  rw [e]
  exact k
theorem rd_neB {K : PySem.W.Frag} {H : Hp} {Q : VK} {p q : Addr} {a b : List Bool} (h1 : SqL K H p (a.map V.bl)) (h2 : SqL K H q (b.map V.bl)) (k : Q (.bl (!decide (a = b))) H) : rNeD K (.ref p) (.ref q) H Q := by
  refine ⟨_, _, .lst h1 (dp_bls a), .lst h2 (dp_bls b), shaped_bls a, shaped_bls b, ?_⟩
  have e : PyData.eqv (.list (a.map PyData.bool)) (.list (b.map PyData.bool)) = decide (a = b) := by
    rw [PyData.eqv]; exact eqvAll_bls a b
  rw [e]
  exact k
theorem pss_either {X : Cx} {st : List Stmt} {t t' : TS} {p p' : Prop} (h : p → PSs X st t) (h' : p' → PSs X st t') : PSs X st (fun D σ H => (p ∧ t D σ H) ∨ (p' ∧ t' D σ H)) :=
  ⟨fun pins s σ H D I hw => hw.elim (fun hw => (h hw.1).run pins s σ H D I hw.2) fun hw => (h' hw.1).run pins s σ H D I hw.2⟩
end L2

set_option Elab.async false
set_option linter.all false
set_option maxRecDepth 100000
set_option maxHeartbeats 4000000
namespace HT
open PySem PySem.Spec PyProof.Rows L2 BR
local macro_rules | `(tactic| walk_at "sq") => `(tactic| first | exact SqL.of (by assumption) | exact SqL.of upd_same | exact SqT.of (by assumption) | exact SqT.of upd_same | assumption | exact Same.seq (by assumption) (by assumption) | exact Same.seq (Same.trans (by assumption) (by assumption)) (by assumption))
local macro_rules | `(tactic| walk_at "len") => `(tactic| (simp only [List.length_append, List.length_map, List.length_cons, List.length_nil, List.length_set, List.length_replicate, List.length_take, List.length_drop, List.length_reverse, List.length_range, dpi_len, dps_len, len_S]; omega))
local macro_rules | `(tactic| walk_at "g1") => `(tactic| first
  | refine ⟨_, rfl, ?_⟩
  | refine ⟨rfl, ?_⟩
  | refine ⟨_, _, rfl, rfl, @id.{0} _ (by first | decide | omega | exact ⟨by decide, by decide⟩ | exact .inr ⟨by decide, by decide⟩ | (show (0 : Int) < _; decide)), ?_⟩
  | refine ⟨_, _, rfl, rfl, ?_⟩
  | refine ⟨_, _, _, _, rfl, rfl, (by walk_at "sq"), (by first | exact atI_last _ _ | (with_reducible exact atI_nat (by assumption))), ?_⟩
  | refine ⟨.inl ⟨rfl, _, (by walk_at "sq")⟩, ?_⟩
  | refine ⟨_, _, rfl, (by first | exact .inl (by walk_at "sq") | exact .inr (by walk_at "sq")), ?_⟩
  | refine ⟨_, rfl, (by first | exact sz5 (by walk_at "len") | exact szS (by omega)), ?_⟩
  | refine ⟨_, _, _, rfl, rfl, (by assumption), sz5l (by walk_at "len"), ?_⟩)
local macro_rules | `(tactic| walk_at "go") => `(tactic| repeat walk_at "g1")
local macro_rules | `(tactic| walk_at "nxt") => `(tactic| (show tSeq Ends.nx _ _ _ _; refine nx_in ?_))

section
variable {P : Program} {w : World} {K : PySem.W.Frag} {mg : Str → Option Value} {base : Heap}
theorem lit_ococ : (Str.ofString "()()") = St_ [40, 41, 40, 41] := by decide +kernel
theorem asks_e {T : Txt K mg} {H : Hp} {E : XK} {k : List Nat → Prop} (h : k []) : Asks T (.str (Str.ofString "")) H E k :=
  .inl ⟨[], congrArg V.str lit_e, by decide, fun h => absurd (row_of (by decide +kernel)) h, fun _ hc => absurd hc (by decide +kernel), fun _ _ => h⟩
theorem mulq (n : Nat) : Txt.mul (Str.ofString "?") (n : Int) = St_ (List.replicate n 63) := by rw [lit_q, mul_S, flat_qs]
theorem mulq_ok (n : Nat) (h : n ≤ 1000) : MulOk (Str.ofString "?") (n : Int) := by
  rw [lit_q]; exact mulOk_S _ _ (by simp; omega) (by omega)
def spLaw (T : Txt K mg) : Sp := fun vs H Q _ => ∃ (a : Addr) (ns : List Int), vs = [.ref a] ∧ SqL K H a (ns.map V.int) ∧ ns.length ≤ 63 ∧ ∀ H', Q (.bl true) H'
theorem okLaw (T : Txt K mg) {fa : Addr} {fd : FuncData} (F : Fun K "law" "law" sLaw fa fd) : FnOk P w K mg base CX0 10 fa fd ["_law_script"] (spLaw T) := by
  refine F.ok scLaw (fun vs H Q E h => ?_) (fun cdv A outer s H vs Q E hr h => ?_)
  · obtain ⟨a, ns, rfl, _⟩ := h
    rfl
  · obtain ⟨a, ns, rfl, hS, hlen, q⟩ := h
    refine ⟨_, (pss_cons (ps_for PassesOwn.never rfl (pi_list (pv 0)) (pg_name (i := 1) scLaw.nd rfl (by first | exact Or.inl rfl | exact Or.inr rfl))
      (pss_cons (ps_set (i := 2) scLaw.nd rfl (by first | exact Or.inl rfl | exact Or.inr rfl) (pe_op op_mod (pv 1) pe_int))
      (pss_cons (ps_set (i := 3) scLaw.nd rfl (by first | exact Or.inl rfl | exact Or.inr rfl) (pe_lst (pa_cons (pe_cmpR op_eq (pv 2) pe_int (nomark _)) (pa_cons (pe_cmpR op_eq (pv 2) pe_int (nomark _)) (pa_cons (pe_cmpR op_eq (pv 2) pe_int (nomark _)) (pa_cons (pe_cmpR op_eq (pv 2) pe_int (nomark _)) (pa_cons (pe_cmpR op_eq (pv 2) pe_int (nomark _)) (pa_cons pe_bl pa_nil))))))))
      (pss_one (ps_if (pt_cmpR (op_neD hr.units) (pe_call (okLawTold T) (hr.mono (by decide)) (by rfl) T.f__law_told.g T.f__law_told.F.kp T.f__law_told.b .nil pass0 (pa_cons (pv 2) (pa_cons (pe_op op_mod (pe_op op_fdiv (pv 1) pe_int) pe_int) (pa_cons (pe_op op_mod (pe_op op_fdiv (pv 1) pe_int) pe_int) pa_nil)))) (pv 3) (nomark _)) (pss_one (ps_ret pe_bl))
      pss_nil)))))
      (pss_cons (ps_if (PW.pt (pw_or (pt_cmpR op_ne (pe_call (okHowMany T) (hr.mono (by decide)) (by rfl) T.f_how_many.g T.f_how_many.F.kp T.f_how_many.b .nil passLN (pa_cons pe_str pa_nil)) pe_int (nomark _)) (pw_or (pt_cmpR op_ne (pe_call (okFirst T) (hr.mono (by decide)) (by rfl) T.f_first.g T.f_first.F.kp T.f_first.b .nil passLN (pa_cons pe_str pa_nil)) pe_str (nomark _)) (pw_or (pt_cmpR op_ne (pe_call (okSettled T) (hr.mono (by decide)) (by rfl) T.f_settled.g T.f_settled.F.kp T.f_settled.b .nil passLN (pa_cons pe_str pa_nil)) pe_str (nomark _)) (pw_or (pt_cmpR op_ne (pe_call (okTold T) (hr.mono (by decide)) (by rfl) T.f_told.g T.f_told.F.kp T.f_told.b .nil passLN (pa_cons pe_str (pa_cons pe_int pa_nil))) pe_str (nomark _)) (pw_or1 (pt_cmpR (op_neD hr.units) (pe_call (okDepths T) (hr.mono (by decide)) (by rfl) T.f_depths.g T.f_depths.F.kp T.f_depths.b .nil passLN (pa_cons pe_str pa_nil)) (pe_lst (pa_cons pe_int pa_nil)) (nomark _)))))))) (pss_one (ps_ret pe_bl))
      pss_nil)
      (pss_cons (ps_if (pt_cmpR op_ne (pe_call (okHowMany T) (hr.mono (by decide)) (by rfl) T.f_how_many.g T.f_how_many.F.kp T.f_how_many.b .nil passLN (pa_cons (pe_op op_mulS pe_str pe_int) pa_nil)) pe_int (nomark _)) (pss_one (ps_ret pe_bl))
      pss_nil)
      (pss_one (ps_ret (pe_and (pe_cmpR op_eq (pe_call (okHowMany T) (hr.mono (by decide)) (by rfl) T.f_how_many.g T.f_how_many.F.kp T.f_how_many.b .nil passLN (pa_cons (pe_op op_mulS pe_str pe_int) pa_nil)) pe_int (nomark _)) (pe_and (pe_cmpR op_eq (pe_call (okHowMany T) (hr.mono (by decide)) (by rfl) T.f_how_many.g T.f_how_many.F.kp T.f_how_many.b .nil passLN (pa_cons pe_str pa_nil)) pe_int (nomark _)) (pe_one (pe_cmpR op_eq (pe_call (okNumberOf T) (hr.mono (by decide)) (by rfl) T.f_number_of.g T.f_number_of.F.kp T.f_number_of.b .nil passLN (pa_cons pe_str (pa_cons pe_str pa_nil))) pe_int (nomark _)))))))))), ?_⟩
    refine ⟨_, rfl, a, rfl, ⟨_, hS⟩, for_lstM (K := K) (a := a) (f := V.int) (xs := ns) (fun p σ H' => ∃ x1 x2 x3, σ = [some (.ref a), x1, x2, x3] ∧ Same H H') ⟨_, _, _, rfl, Same.refl _⟩ (fun p σ H' ⟨_, _, _, _, s⟩ => s.seq hS) ?_ ?_⟩
    · rintro p c r σ H1 e ⟨x1, x2, x3, rfl, s1⟩
      obtain ⟨k, hk⟩ : ∃ k : Int, k = c % 5 := ⟨_, rfl⟩
      have hk0 : 0 ≤ k := by rw [hk]; exact Int.emod_nonneg _ (by decide)
      have hk5 : k < 5 := by rw [hk]; exact Int.emod_lt_of_pos _ (by decide)
      refine sq_set (.int k) (fun Q q => ?_) ?_
      · rw [hk] at q
        exact ⟨_, rfl, _, _, rfl, rfl, (show (0 : Int) < 5 by decide), q⟩
      refine ⟨_, rfl, rfl, _, rfl, rfl, _, rfl, rfl, _, rfl, rfl, _, rfl, rfl, sz5 (by simp), fun pd npd => ?_⟩
      have s2 := Same.new npd (o := HO.lst [V.bl (decide (V.int k = V.int 0)), V.bl (decide (V.int k = V.int 1)), V.bl (decide (V.int k = V.int 2)), V.bl (decide (V.int k = V.int 3)), V.bl (decide (V.int k = V.int 4)), V.bl true])
      have hd : (upd H1 pd (HO.lst [V.bl (decide (V.int k = V.int 0)), V.bl (decide (V.int k = V.int 1)), V.bl (decide (V.int k = V.int 2)), V.bl (decide (V.int k = V.int 3)), V.bl (decide (V.int k = V.int 4)), V.bl true])) pd = some (.lst ((dueB k).map V.bl)) := by
        rw [upd_same, d_int, d_int, d_int, d_int, d_int]; rfl
      generalize upd H1 pd _ = H2 at *
      refine ⟨_, rfl, _, rfl, _, _, rfl, rfl, ⟨by decide, by decide⟩, _, _, rfl, rfl, (show (0 : Int) < 100000 by decide), _, rfl, _, _, rfl, rfl, ⟨by decide, by decide⟩, _, _, rfl, rfl, (show (0 : Int) < 1000 by decide), k, _, _, rfl, hk0, hk5, Int.emod_nonneg _ (by decide), fun H3 p3 s3 hp3 => ?_⟩
      exact ⟨_, rfl, rd_neB (SqL.of hp3) (SqL.of (s3 _ _ hd)) ⟨_, rfl, iteNS rfl ⟨_, _, _, rfl, (s1.trans s2).trans s3⟩⟩⟩
    rintro σ H1 ⟨x1, x2, x3, rfl, s1⟩
    refine ⟨_, rfl, .inl ⟨[], congrArg V.str lit_e, by decide, (fun h => absurd (row_of (by decide +kernel)) h), fun _ H2 s2 => ⟨rfl, _, rfl, iteNS rfl ?_⟩⟩⟩
    refine ⟨_, rfl, asks_e fun H3 s3 => ⟨rfl, _, rfl, iteNS (show S (greedy true [] 0) = V.str (Str.ofString "") from (congrArg V.str lit_e).symm) ?_⟩⟩
    refine ⟨_, rfl, asks_e fun H4 s4 => ⟨rfl, _, rfl, iteNS (show S (settledOf []) = V.str (Str.ofString "") from (congrArg V.str lit_e).symm) ?_⟩⟩
    refine ⟨_, _, rfl, asks_e ⟨by decide, .inl ⟨0, rfl, by decide +kernel, fun H5 s5 => ⟨rfl, _, rfl, iteNS (show S (toldW [] 0 0) = V.str (Str.ofString "") from (congrArg V.str lit_e).symm) ?_⟩⟩⟩⟩
    refine ⟨_, rfl, .inl ⟨[], congrArg V.str lit_e, by decide, (fun h => absurd (row_of (by decide +kernel)) h), (fun _ hc => absurd hc (by decide +kernel)), fun _ _ H6 p6 s6 np6 hp6 => ?_⟩⟩
    refine ⟨sz5 (by simp), fun p7 np7 => rd_neL (a := dps 0 []) (b := [0]) (SqL.of (Same.new np7 _ _ hp6)) (SqL.of upd_same) ⟨_, rfl, iteNS rfl ?_⟩⟩
    refine ⟨_, _, rfl, rfl, mulq_ok 60 (by decide), _, rfl, .inl ⟨List.replicate 60 63, congrArg V.str (mulq 60), by simp, (fun h => absurd (row_qs _) h), fun _ H7 s7 => ⟨rfl, _, rfl, ?_⟩⟩⟩
    rw [cnt_60]
    refine iteNS rfl ?_
    refine ⟨_, _, rfl, rfl, mulq_ok 20 (by decide), _, rfl, .inl ⟨List.replicate 20 63, congrArg V.str (mulq 20), by simp, (fun h => absurd (row_qs _) h), fun _ H8 s8 => ⟨rfl, _, rfl, ?_⟩⟩⟩
    rw [cnt_20]
    refine iteD rfl ⟨_, rfl, .inl ⟨[41], congrArg V.str lit_cl, by decide, (fun h => absurd (row_of (by decide +kernel)) h), fun _ H9 s9 => ⟨rfl, _, rfl, iteD (show V.int ((cnt [41] 0 : Nat) : Int) = V.int 0 from rfl) ?_⟩⟩⟩
    refine ⟨_, _, rfl, asks_oqqc ⟨by decide, .inl ⟨[40, 41, 40, 41], congrArg V.str lit_ococ, by decide, .inl (row_of (by decide +kernel)), fun _ _ H10 s10 => ⟨rfl, ?_⟩, fun h => absurd h (by decide +kernel)⟩⟩⟩
    rw [show rankW [40, 63, 63, 41] 0 [40, 41, 40, 41] = 1 by decide +kernel]
    exact q _
end
end HT

set_option Elab.async false
set_option linter.all false
set_option maxRecDepth 100000
set_option maxHeartbeats 4000000
namespace HT
open PySem PySem.Spec PyProof.Rows L2 BR
def spEnd (K : PySem.W.Frag) : Sp := fun vs H Q _ => ∃ (a : Addr) (ns : List Int), vs = [.ref a] ∧ SqL K H a (ns.map V.int) ∧ ns.length ≤ 63 ∧ ∀ H', Q (.bl true) H'
theorem all_mk {l : PySem.W.OpenLaw} {w : World} {K : PySem.W.Frag} {h : Heap} {mg : Str → Option Value} {fa f1 f2 f3 f4 f5 f6 f7 f8 f9 f10 f11 f12 f13 f14 f15 f16 f17 f18 f19 f20 f21 f22 f23 f24 f25 f26 f27 f100 f101 f102 f103 CBracketError CBadRow CNoFilling CBadNumber CBadText CBadPrices CAnswer CFilled CUneven CEarly CLate CCheapest : Addr} (X : K.In h) (G : h.Ns mainGlobals mg) (hfa : mg "law" = some (.ref fa))
    {od1 an1 : Option Addr} {sl1 : Array (Option Value)} {oc1 kV1 dc1 pm1 cd1 ct1 : Value}
    {od2 an2 : Option Addr} {sl2 : Array (Option Value)} {oc2 kV2 dc2 pm2 cd2 ct2 : Value}
    {od3 an3 : Option Addr} {sl3 : Array (Option Value)} {oc3 kV3 dc3 pm3 cd3 ct3 : Value}
    {od4 an4 : Option Addr} {sl4 : Array (Option Value)} {oc4 kV4 dc4 pm4 cd4 ct4 : Value}
    {od5 an5 : Option Addr} {sl5 : Array (Option Value)} {oc5 kV5 dc5 pm5 cd5 ct5 : Value}
    {od6 an6 : Option Addr} {sl6 : Array (Option Value)} {oc6 kV6 dc6 pm6 cd6 ct6 : Value}
    {od7 an7 : Option Addr} {sl7 : Array (Option Value)} {oc7 kV7 dc7 pm7 cd7 ct7 : Value}
    {od8 an8 : Option Addr} {sl8 : Array (Option Value)} {oc8 kV8 dc8 pm8 cd8 ct8 : Value}
    {od9 an9 : Option Addr} {sl9 : Array (Option Value)} {oc9 kV9 dc9 pm9 cd9 ct9 : Value}
    {od10 an10 : Option Addr} {sl10 : Array (Option Value)} {oc10 kV10 dc10 pm10 cd10 ct10 : Value}
    {od11 an11 : Option Addr} {sl11 : Array (Option Value)} {oc11 kV11 dc11 pm11 cd11 ct11 : Value}
    {od12 an12 : Option Addr} {sl12 : Array (Option Value)} {oc12 kV12 dc12 pm12 cd12 ct12 : Value}
    {od13 an13 : Option Addr} {sl13 : Array (Option Value)} {oc13 kV13 dc13 pm13 cd13 ct13 : Value}
    {od14 an14 : Option Addr} {sl14 : Array (Option Value)} {oc14 kV14 dc14 pm14 cd14 ct14 : Value}
    {od15 an15 : Option Addr} {sl15 : Array (Option Value)} {oc15 kV15 dc15 pm15 cd15 ct15 : Value}
    {od16 an16 : Option Addr} {sl16 : Array (Option Value)} {oc16 kV16 dc16 pm16 cd16 ct16 : Value}
    {od17 an17 : Option Addr} {sl17 : Array (Option Value)} {oc17 kV17 dc17 pm17 cd17 ct17 : Value}
    {od18 an18 : Option Addr} {sl18 : Array (Option Value)} {oc18 kV18 dc18 pm18 cd18 ct18 : Value}
    {od19 an19 : Option Addr} {sl19 : Array (Option Value)} {oc19 kV19 dc19 pm19 cd19 ct19 : Value}
    {od20 an20 : Option Addr} {sl20 : Array (Option Value)} {oc20 kV20 dc20 pm20 cd20 ct20 : Value}
    {od21 an21 : Option Addr} {sl21 : Array (Option Value)} {oc21 kV21 dc21 pm21 cd21 ct21 : Value}
    {od22 an22 : Option Addr} {sl22 : Array (Option Value)} {oc22 kV22 dc22 pm22 cd22 ct22 : Value}
    {od23 an23 : Option Addr} {sl23 : Array (Option Value)} {oc23 kV23 dc23 pm23 cd23 ct23 : Value}
    {od24 an24 : Option Addr} {sl24 : Array (Option Value)} {oc24 kV24 dc24 pm24 cd24 ct24 : Value}
    {od25 an25 : Option Addr} {sl25 : Array (Option Value)} {oc25 kV25 dc25 pm25 cd25 ct25 : Value}
    {od26 an26 : Option Addr} {sl26 : Array (Option Value)} {oc26 kV26 dc26 pm26 cd26 ct26 : Value}
    {od27 an27 : Option Addr} {sl27 : Array (Option Value)} {oc27 kV27 dc27 pm27 cd27 ct27 : Value}
    {od100 an100 : Option Addr} {sl100 : Array (Option Value)} {oc100 kV100 dc100 pm100 cd100 ct100 : Value}
    {od101 an101 : Option Addr} {sl101 : Array (Option Value)} {oc101 kV101 dc101 pm101 cd101 ct101 : Value}
    {od102 an102 : Option Addr} {sl102 : Array (Option Value)} {oc102 kV102 dc102 pm102 cd102 ct102 : Value}
    {od103 an103 : Option Addr} {sl103 : Array (Option Value)} {oc103 kV103 dc103 pm103 cd103 ct103 : Value}
    (a1 : PySem.W.nsIn K mainGlobals "asked_row" = some (some (.ref f1)))
    (l1 : K.lookup f1 = some ⟨oc1, od1, .func (PySem.W.fnOf "asked_row" "asked_row" (defArgs sAskedRow) (defBody sAskedRow) (defScope sAskedRow) .none kV1 dc1 pm1 an1 cd1 ct1), sl1⟩)
    (c1 : PySem.W.codeIn K cd1 "asked_row" = true)
    (k1 : PySem.W.keepIn K (.ref f1) = true)
    (a2 : PySem.W.nsIn K mainGlobals "depths_of" = some (some (.ref f2)))
    (l2 : K.lookup f2 = some ⟨oc2, od2, .func (PySem.W.fnOf "depths_of" "depths_of" (defArgs sDepthsOf) (defBody sDepthsOf) (defScope sDepthsOf) .none kV2 dc2 pm2 an2 cd2 ct2), sl2⟩)
    (c2 : PySem.W.codeIn K cd2 "depths_of" = true)
    (k2 : PySem.W.keepIn K (.ref f2) = true)
    (a3 : PySem.W.nsIn K mainGlobals "is_closed" = some (some (.ref f3)))
    (l3 : K.lookup f3 = some ⟨oc3, od3, .func (PySem.W.fnOf "is_closed" "is_closed" (defArgs sIsClosed) (defBody sIsClosed) (defScope sIsClosed) .none kV3 dc3 pm3 an3 cd3 ct3), sl3⟩)
    (c3 : PySem.W.codeIn K cd3 "is_closed" = true)
    (k3 : PySem.W.keepIn K (.ref f3) = true)
    (a4 : PySem.W.nsIn K mainGlobals "is_filling" = some (some (.ref f4)))
    (l4 : K.lookup f4 = some ⟨oc4, od4, .func (PySem.W.fnOf "is_filling" "is_filling" (defArgs sIsFilling) (defBody sIsFilling) (defScope sIsFilling) .none kV4 dc4 pm4 an4 cd4 ct4), sl4⟩)
    (c4 : PySem.W.codeIn K cd4 "is_filling" = true)
    (k4 : PySem.W.keepIn K (.ref f4) = true)
    (a5 : PySem.W.nsIn K mainGlobals "behind" = some (some (.ref f5)))
    (l5 : K.lookup f5 = some ⟨oc5, od5, .func (PySem.W.fnOf "behind" "behind" (defArgs sBehind) (defBody sBehind) (defScope sBehind) .none kV5 dc5 pm5 an5 cd5 ct5), sl5⟩)
    (c5 : PySem.W.codeIn K cd5 "behind" = true)
    (k5 : PySem.W.keepIn K (.ref f5) = true)
    (a6 : PySem.W.nsIn K mainGlobals "asked_filling" = some (some (.ref f6)))
    (l6 : K.lookup f6 = some ⟨oc6, od6, .func (PySem.W.fnOf "asked_filling" "asked_filling" (defArgs sAskedFilling) (defBody sAskedFilling) (defScope sAskedFilling) .none kV6 dc6 pm6 an6 cd6 ct6), sl6⟩)
    (c6 : PySem.W.codeIn K cd6 "asked_filling" = true)
    (k6 : PySem.W.keepIn K (.ref f6) = true)
    (a7 : PySem.W.nsIn K mainGlobals "partners" = some (some (.ref f7)))
    (l7 : K.lookup f7 = some ⟨oc7, od7, .func (PySem.W.fnOf "partners" "partners" (defArgs sPartners) (defBody sPartners) (defScope sPartners) .none kV7 dc7 pm7 an7 cd7 ct7), sl7⟩)
    (c7 : PySem.W.codeIn K cd7 "partners" = true)
    (k7 : PySem.W.keepIn K (.ref f7) = true)
    (a8 : PySem.W.nsIn K mainGlobals "depths" = some (some (.ref f8)))
    (l8 : K.lookup f8 = some ⟨oc8, od8, .func (PySem.W.fnOf "depths" "depths" (defArgs sDepths) (defBody sDepths) (defScope sDepths) .none kV8 dc8 pm8 an8 cd8 ct8), sl8⟩)
    (c8 : PySem.W.codeIn K cd8 "depths" = true)
    (k8 : PySem.W.keepIn K (.ref f8) = true)
    (a9 : PySem.W.nsIn K mainGlobals "is_price" = some (some (.ref f9)))
    (l9 : K.lookup f9 = some ⟨oc9, od9, .func (PySem.W.fnOf "is_price" "is_price" (defArgs sIsPrice) (defBody sIsPrice) (defScope sIsPrice) .none kV9 dc9 pm9 an9 cd9 ct9), sl9⟩)
    (c9 : PySem.W.codeIn K cd9 "is_price" = true)
    (k9 : PySem.W.keepIn K (.ref f9) = true)
    (a10 : PySem.W.nsIn K mainGlobals "cheapest" = some (some (.ref f10)))
    (l10 : K.lookup f10 = some ⟨oc10, od10, .func (PySem.W.fnOf "cheapest" "cheapest" (defArgs sCheapest) (defBody sCheapest) (defScope sCheapest) .none kV10 dc10 pm10 an10 cd10 ct10), sl10⟩)
    (c10 : PySem.W.codeIn K cd10 "cheapest" = true)
    (k10 : PySem.W.keepIn K (.ref f10) = true)
    (a11 : PySem.W.nsIn K mainGlobals "mores_of" = some (some (.ref f11)))
    (l11 : K.lookup f11 = some ⟨oc11, od11, .func (PySem.W.fnOf "mores_of" "mores_of" (defArgs sMoresOf) (defBody sMoresOf) (defScope sMoresOf) .none kV11 dc11 pm11 an11 cd11 ct11), sl11⟩)
    (c11 : PySem.W.codeIn K cd11 "mores_of" = true)
    (k11 : PySem.W.keepIn K (.ref f11) = true)
    (a12 : PySem.W.nsIn K mainGlobals "opened" = some (some (.ref f12)))
    (l12 : K.lookup f12 = some ⟨oc12, od12, .func (PySem.W.fnOf "opened" "opened" (defArgs sOpened) (defBody sOpened) (defScope sOpened) .none kV12 dc12 pm12 an12 cd12 ct12), sl12⟩)
    (c12 : PySem.W.codeIn K cd12 "opened" = true)
    (k12 : PySem.W.keepIn K (.ref f12) = true)
    (a13 : PySem.W.nsIn K mainGlobals "levels_of" = some (some (.ref f13)))
    (l13 : K.lookup f13 = some ⟨oc13, od13, .func (PySem.W.fnOf "levels_of" "levels_of" (defArgs sLevelsOf) (defBody sLevelsOf) (defScope sLevelsOf) .none kV13 dc13 pm13 an13 cd13 ct13), sl13⟩)
    (c13 : PySem.W.codeIn K cd13 "levels_of" = true)
    (k13 : PySem.W.keepIn K (.ref f13) = true)
    (a14 : PySem.W.nsIn K mainGlobals "table_of" = some (some (.ref f14)))
    (l14 : K.lookup f14 = some ⟨oc14, od14, .func (PySem.W.fnOf "table_of" "table_of" (defArgs sTableOf) (defBody sTableOf) (defScope sTableOf) .none kV14 dc14 pm14 an14 cd14 ct14), sl14⟩)
    (c14 : PySem.W.codeIn K cd14 "table_of" = true)
    (k14 : PySem.W.keepIn K (.ref f14) = true)
    (a15 : PySem.W.nsIn K mainGlobals "how_many" = some (some (.ref f15)))
    (l15 : K.lookup f15 = some ⟨oc15, od15, .func (PySem.W.fnOf "how_many" "how_many" (defArgs sHowMany) (defBody sHowMany) (defScope sHowMany) .none kV15 dc15 pm15 an15 cd15 ct15), sl15⟩)
    (c15 : PySem.W.codeIn K cd15 "how_many" = true)
    (k15 : PySem.W.keepIn K (.ref f15) = true)
    (a16 : PySem.W.nsIn K mainGlobals "told" = some (some (.ref f16)))
    (l16 : K.lookup f16 = some ⟨oc16, od16, .func (PySem.W.fnOf "told" "told" (defArgs sTold) (defBody sTold) (defScope sTold) .none kV16 dc16 pm16 an16 cd16 ct16), sl16⟩)
    (c16 : PySem.W.codeIn K cd16 "told" = true)
    (k16 : PySem.W.keepIn K (.ref f16) = true)
    (a17 : PySem.W.nsIn K mainGlobals "number_of" = some (some (.ref f17)))
    (l17 : K.lookup f17 = some ⟨oc17, od17, .func (PySem.W.fnOf "number_of" "number_of" (defArgs sNumberOf) (defBody sNumberOf) (defScope sNumberOf) .none kV17 dc17 pm17 an17 cd17 ct17), sl17⟩)
    (c17 : PySem.W.codeIn K cd17 "number_of" = true)
    (k17 : PySem.W.keepIn K (.ref f17) = true)
    (a18 : PySem.W.nsIn K mainGlobals "earliest" = some (some (.ref f18)))
    (l18 : K.lookup f18 = some ⟨oc18, od18, .func (PySem.W.fnOf "earliest" "earliest" (defArgs sEarliest) (defBody sEarliest) (defScope sEarliest) .none kV18 dc18 pm18 an18 cd18 ct18), sl18⟩)
    (c18 : PySem.W.codeIn K cd18 "earliest" = true)
    (k18 : PySem.W.keepIn K (.ref f18) = true)
    (a19 : PySem.W.nsIn K mainGlobals "filled" = some (some (.ref f19)))
    (l19 : K.lookup f19 = some ⟨oc19, od19, .func (PySem.W.fnOf "filled" "filled" (defArgs sFilled) (defBody sFilled) (defScope sFilled) .none kV19 dc19 pm19 an19 cd19 ct19), sl19⟩)
    (c19 : PySem.W.codeIn K cd19 "filled" = true)
    (k19 : PySem.W.keepIn K (.ref f19) = true)
    (a20 : PySem.W.nsIn K mainGlobals "first" = some (some (.ref f20)))
    (l20 : K.lookup f20 = some ⟨oc20, od20, .func (PySem.W.fnOf "first" "first" (defArgs sFirst) (defBody sFirst) (defScope sFirst) .none kV20 dc20 pm20 an20 cd20 ct20), sl20⟩)
    (c20 : PySem.W.codeIn K cd20 "first" = true)
    (k20 : PySem.W.keepIn K (.ref f20) = true)
    (a21 : PySem.W.nsIn K mainGlobals "last" = some (some (.ref f21)))
    (l21 : K.lookup f21 = some ⟨oc21, od21, .func (PySem.W.fnOf "last" "last" (defArgs sLast) (defBody sLast) (defScope sLast) .none kV21 dc21 pm21 an21 cd21 ct21), sl21⟩)
    (c21 : PySem.W.codeIn K cd21 "last" = true)
    (k21 : PySem.W.keepIn K (.ref f21) = true)
    (a22 : PySem.W.nsIn K mainGlobals "settled" = some (some (.ref f22)))
    (l22 : K.lookup f22 = some ⟨oc22, od22, .func (PySem.W.fnOf "settled" "settled" (defArgs sSettled) (defBody sSettled) (defScope sSettled) .none kV22 dc22 pm22 an22 cd22 ct22), sl22⟩)
    (c22 : PySem.W.codeIn K cd22 "settled" = true)
    (k22 : PySem.W.keepIn K (.ref f22) = true)
    (a23 : PySem.W.nsIn K mainGlobals "_law_row_asked" = some (some (.ref f23)))
    (l23 : K.lookup f23 = some ⟨oc23, od23, .func (PySem.W.fnOf "_law_row_asked" "_law_row_asked" (defArgs sLawRowAsked) (defBody sLawRowAsked) (defScope sLawRowAsked) .none kV23 dc23 pm23 an23 cd23 ct23), sl23⟩)
    (c23 : PySem.W.codeIn K cd23 "_law_row_asked" = true)
    (k23 : PySem.W.keepIn K (.ref f23) = true)
    (a24 : PySem.W.nsIn K mainGlobals "_law_none_asked" = some (some (.ref f24)))
    (l24 : K.lookup f24 = some ⟨oc24, od24, .func (PySem.W.fnOf "_law_none_asked" "_law_none_asked" (defArgs sLawNoneAsked) (defBody sLawNoneAsked) (defScope sLawNoneAsked) .none kV24 dc24 pm24 an24 cd24 ct24), sl24⟩)
    (c24 : PySem.W.codeIn K cd24 "_law_none_asked" = true)
    (k24 : PySem.W.keepIn K (.ref f24) = true)
    (a25 : PySem.W.nsIn K mainGlobals "_law_others_asked" = some (some (.ref f25)))
    (l25 : K.lookup f25 = some ⟨oc25, od25, .func (PySem.W.fnOf "_law_others_asked" "_law_others_asked" (defArgs sLawOthersAsked) (defBody sLawOthersAsked) (defScope sLawOthersAsked) .none kV25 dc25 pm25 an25 cd25 ct25), sl25⟩)
    (c25 : PySem.W.codeIn K cd25 "_law_others_asked" = true)
    (k25 : PySem.W.keepIn K (.ref f25) = true)
    (a26 : PySem.W.nsIn K mainGlobals "_law_told" = some (some (.ref f26)))
    (l26 : K.lookup f26 = some ⟨oc26, od26, .func (PySem.W.fnOf "_law_told" "_law_told" (defArgs sLawTold) (defBody sLawTold) (defScope sLawTold) .none kV26 dc26 pm26 an26 cd26 ct26), sl26⟩)
    (c26 : PySem.W.codeIn K cd26 "_law_told" = true)
    (k26 : PySem.W.keepIn K (.ref f26) = true)
    (a27 : PySem.W.nsIn K mainGlobals "law" = some (some (.ref f27)))
    (l27 : K.lookup f27 = some ⟨oc27, od27, .func (PySem.W.fnOf "law" "law" (defArgs sLaw) (defBody sLaw) (defScope sLaw) .none kV27 dc27 pm27 an27 cd27 ct27), sl27⟩)
    (c27 : PySem.W.codeIn K cd27 "law" = true)
    (k27 : PySem.W.keepIn K (.ref f27) = true)
    (aCAnswer : PySem.W.nsIn K mainGlobals "Answer" = some (some (.ref CAnswer)))
    (aCFilled : PySem.W.nsIn K mainGlobals "Filled" = some (some (.ref CFilled)))
    (aCUneven : PySem.W.nsIn K mainGlobals "Uneven" = some (some (.ref CUneven)))
    (aCEarly : PySem.W.nsIn K mainGlobals "Early" = some (some (.ref CEarly)))
    (aCLate : PySem.W.nsIn K mainGlobals "Late" = some (some (.ref CLate)))
    (aCCheapest : PySem.W.nsIn K mainGlobals "Cheapest" = some (some (.ref CCheapest)))
    (aCBracketError : PySem.W.nsIn K mainGlobals "BracketError" = some (some (.ref CBracketError)))
    (aCBadRow : PySem.W.nsIn K mainGlobals "BadRow" = some (some (.ref CBadRow)))
    (aCNoFilling : PySem.W.nsIn K mainGlobals "NoFilling" = some (some (.ref CNoFilling)))
    (aCBadNumber : PySem.W.nsIn K mainGlobals "BadNumber" = some (some (.ref CBadNumber)))
    (aCBadText : PySem.W.nsIn K mainGlobals "BadText" = some (some (.ref CBadText)))
    (aCBadPrices : PySem.W.nsIn K mainGlobals "BadPrices" = some (some (.ref CBadPrices)))
    (a100 : PySem.W.findIn K (.ref CFilled) "__init__" = some (some (.ref f100)))
    (i100 : PySem.W.isFn K (.ref f100) = true)
    (l100 : K.lookup f100 = some ⟨oc100, od100, .func (PySem.W.fnOf "__init__" "Filled.__init__" (defArgs sInitFilled) (defBody sInitFilled) (defScope sInitFilled) .none kV100 dc100 pm100 an100 cd100 ct100), sl100⟩)
    (c100 : PySem.W.codeIn K cd100 "Filled.__init__" = true)
    (k100 : PySem.W.keepIn K (.ref f100) = true)
    (a101 : PySem.W.findIn K (.ref CEarly) "__init__" = some (some (.ref f101)))
    (i101 : PySem.W.isFn K (.ref f101) = true)
    (l101 : K.lookup f101 = some ⟨oc101, od101, .func (PySem.W.fnOf "__init__" "Early.__init__" (defArgs sInitEarly) (defBody sInitEarly) (defScope sInitEarly) .none kV101 dc101 pm101 an101 cd101 ct101), sl101⟩)
    (c101 : PySem.W.codeIn K cd101 "Early.__init__" = true)
    (k101 : PySem.W.keepIn K (.ref f101) = true)
    (a102 : PySem.W.findIn K (.ref CLate) "__init__" = some (some (.ref f102)))
    (i102 : PySem.W.isFn K (.ref f102) = true)
    (l102 : K.lookup f102 = some ⟨oc102, od102, .func (PySem.W.fnOf "__init__" "Late.__init__" (defArgs sInitLate) (defBody sInitLate) (defScope sInitLate) .none kV102 dc102 pm102 an102 cd102 ct102), sl102⟩)
    (c102 : PySem.W.codeIn K cd102 "Late.__init__" = true)
    (k102 : PySem.W.keepIn K (.ref f102) = true)
    (a103 : PySem.W.findIn K (.ref CCheapest) "__init__" = some (some (.ref f103)))
    (i103 : PySem.W.isFn K (.ref f103) = true)
    (l103 : K.lookup f103 = some ⟨oc103, od103, .func (PySem.W.fnOf "__init__" "Cheapest.__init__" (defArgs sInitCheapest) (defBody sInitCheapest) (defScope sInitCheapest) .none kV103 dc103 pm103 an103 cd103 ct103), sl103⟩)
    (c103 : PySem.W.codeIn K cd103 "Cheapest.__init__" = true)
    (k103 : PySem.W.keepIn K (.ref f103) = true)
    (z_ValueError : PySem.W.nsIn K mainGlobals "ValueError" = some none)
    (z_all : PySem.W.nsIn K mainGlobals "all" = some none)
    (z_bool : PySem.W.nsIn K mainGlobals "bool" = some none)
    (z_enumerate : PySem.W.nsIn K mainGlobals "enumerate" = some none)
    (z_int : PySem.W.nsIn K mainGlobals "int" = some none)
    (z_isinstance : PySem.W.nsIn K mainGlobals "isinstance" = some none)
    (z_len : PySem.W.nsIn K mainGlobals "len" = some none)
    (z_list : PySem.W.nsIn K mainGlobals "list" = some none)
    (z_max : PySem.W.nsIn K mainGlobals "max" = some none)
    (z_min : PySem.W.nsIn K mainGlobals "min" = some none)
    (z_range : PySem.W.nsIn K mainGlobals "range" = some none)
    (z_reversed : PySem.W.nsIn K mainGlobals "reversed" = some none)
    (z_str : PySem.W.nsIn K mainGlobals "str" = some none)
    (z_tuple : PySem.W.nsIn K mainGlobals "tuple" = some none)
    (z_zip : PySem.W.nsIn K mainGlobals "zip" = some none)
    (x_BracketError : PySem.W.excIn K CBracketError [.type "ValueError", .type "Exception", .type "BaseException", .type "object"] "ValueError.__new__" = true)
    (kx_BracketError : PySem.W.keepIn K (.ref CBracketError) = true)
    (bx_BracketError : PySem.W.subIn K (.ref CBracketError) (.type "BaseException") = some true)
    (tx_BracketError : PySem.W.typeIn K (.ref CBracketError) = some (.type "type"))
    (x_BadRow : PySem.W.excIn K CBadRow [.type "ValueError", .type "Exception", .type "BaseException", .type "object"] "ValueError.__new__" = true)
    (kx_BadRow : PySem.W.keepIn K (.ref CBadRow) = true)
    (bx_BadRow : PySem.W.subIn K (.ref CBadRow) (.type "BaseException") = some true)
    (tx_BadRow : PySem.W.typeIn K (.ref CBadRow) = some (.type "type"))
    (x_NoFilling : PySem.W.excIn K CNoFilling [.type "ValueError", .type "Exception", .type "BaseException", .type "object"] "ValueError.__new__" = true)
    (kx_NoFilling : PySem.W.keepIn K (.ref CNoFilling) = true)
    (bx_NoFilling : PySem.W.subIn K (.ref CNoFilling) (.type "BaseException") = some true)
    (tx_NoFilling : PySem.W.typeIn K (.ref CNoFilling) = some (.type "type"))
    (x_BadNumber : PySem.W.excIn K CBadNumber [.type "ValueError", .type "Exception", .type "BaseException", .type "object"] "ValueError.__new__" = true)
    (kx_BadNumber : PySem.W.keepIn K (.ref CBadNumber) = true)
    (bx_BadNumber : PySem.W.subIn K (.ref CBadNumber) (.type "BaseException") = some true)
    (tx_BadNumber : PySem.W.typeIn K (.ref CBadNumber) = some (.type "type"))
    (x_BadText : PySem.W.excIn K CBadText [.type "ValueError", .type "Exception", .type "BaseException", .type "object"] "ValueError.__new__" = true)
    (kx_BadText : PySem.W.keepIn K (.ref CBadText) = true)
    (bx_BadText : PySem.W.subIn K (.ref CBadText) (.type "BaseException") = some true)
    (tx_BadText : PySem.W.typeIn K (.ref CBadText) = some (.type "type"))
    (x_BadPrices : PySem.W.excIn K CBadPrices [.type "ValueError", .type "Exception", .type "BaseException", .type "object"] "ValueError.__new__" = true)
    (kx_BadPrices : PySem.W.keepIn K (.ref CBadPrices) = true)
    (bx_BadPrices : PySem.W.subIn K (.ref CBadPrices) (.type "BaseException") = some true)
    (tx_BadPrices : PySem.W.typeIn K (.ref CBadPrices) = some (.type "type"))
    (hnO : PySem.W.specialIn K (.builtin "object.__class__") "__get__" = some (some (.builtin "getset_descriptor.__get__")))
    (htO : PySem.W.takesIn K (.builtin "object.__class__") = some true)
    (hdB : PySem.W.hasDictIn K CBracketError = true)
    (eg_BadRow : PySem.W.findIn K (.ref CBadRow) "__getattribute__" = some (some (.builtin "BaseException.__getattribute__")))
    (ek_BadRow : PySem.W.findIn K (.ref CBadRow) "__getattr__" = some none)
    (ed_BadRow : PySem.W.hasDictIn K CBadRow = true)
    (ea_BadRow : PySem.W.findIn K (.ref CBadRow) "__class__" = some (some (.builtin "object.__class__")))
    (em_BadRow : PySem.W.mroIn K CBadRow (.type "object") = some true)
    (i_BadRow_BracketError : PySem.W.kitOne K (.ref CBadRow) (.ref CBracketError) = some true)
    (i_BadRow_BadRow : PySem.W.kitOne K (.ref CBadRow) (.ref CBadRow) = some true)
    (i_BadRow_NoFilling : PySem.W.kitOne K (.ref CBadRow) (.ref CNoFilling) = some false)
    (i_BadRow_BadNumber : PySem.W.kitOne K (.ref CBadRow) (.ref CBadNumber) = some false)
    (i_BadRow_BadText : PySem.W.kitOne K (.ref CBadRow) (.ref CBadText) = some false)
    (i_BadRow_BadPrices : PySem.W.kitOne K (.ref CBadRow) (.ref CBadPrices) = some false)
    (i_BadRow_ValueError : PySem.W.kitOne K (.ref CBadRow) (.type "ValueError") = some true)
    (sB_BadRow : PySem.W.subIn K (.ref CBadRow) (.ref CBracketError) = some true)
    (eg_NoFilling : PySem.W.findIn K (.ref CNoFilling) "__getattribute__" = some (some (.builtin "BaseException.__getattribute__")))
    (ek_NoFilling : PySem.W.findIn K (.ref CNoFilling) "__getattr__" = some none)
    (ed_NoFilling : PySem.W.hasDictIn K CNoFilling = true)
    (ea_NoFilling : PySem.W.findIn K (.ref CNoFilling) "__class__" = some (some (.builtin "object.__class__")))
    (em_NoFilling : PySem.W.mroIn K CNoFilling (.type "object") = some true)
    (i_NoFilling_BracketError : PySem.W.kitOne K (.ref CNoFilling) (.ref CBracketError) = some true)
    (i_NoFilling_BadRow : PySem.W.kitOne K (.ref CNoFilling) (.ref CBadRow) = some false)
    (i_NoFilling_NoFilling : PySem.W.kitOne K (.ref CNoFilling) (.ref CNoFilling) = some true)
    (i_NoFilling_BadNumber : PySem.W.kitOne K (.ref CNoFilling) (.ref CBadNumber) = some false)
    (i_NoFilling_BadText : PySem.W.kitOne K (.ref CNoFilling) (.ref CBadText) = some false)
    (i_NoFilling_BadPrices : PySem.W.kitOne K (.ref CNoFilling) (.ref CBadPrices) = some false)
    (i_NoFilling_ValueError : PySem.W.kitOne K (.ref CNoFilling) (.type "ValueError") = some true)
    (sB_NoFilling : PySem.W.subIn K (.ref CNoFilling) (.ref CBracketError) = some true)
    (eg_BadNumber : PySem.W.findIn K (.ref CBadNumber) "__getattribute__" = some (some (.builtin "BaseException.__getattribute__")))
    (ek_BadNumber : PySem.W.findIn K (.ref CBadNumber) "__getattr__" = some none)
    (ed_BadNumber : PySem.W.hasDictIn K CBadNumber = true)
    (ea_BadNumber : PySem.W.findIn K (.ref CBadNumber) "__class__" = some (some (.builtin "object.__class__")))
    (em_BadNumber : PySem.W.mroIn K CBadNumber (.type "object") = some true)
    (i_BadNumber_BracketError : PySem.W.kitOne K (.ref CBadNumber) (.ref CBracketError) = some true)
    (i_BadNumber_BadRow : PySem.W.kitOne K (.ref CBadNumber) (.ref CBadRow) = some false)
    (i_BadNumber_NoFilling : PySem.W.kitOne K (.ref CBadNumber) (.ref CNoFilling) = some false)
    (i_BadNumber_BadNumber : PySem.W.kitOne K (.ref CBadNumber) (.ref CBadNumber) = some true)
    (i_BadNumber_BadText : PySem.W.kitOne K (.ref CBadNumber) (.ref CBadText) = some false)
    (i_BadNumber_BadPrices : PySem.W.kitOne K (.ref CBadNumber) (.ref CBadPrices) = some false)
    (i_BadNumber_ValueError : PySem.W.kitOne K (.ref CBadNumber) (.type "ValueError") = some true)
    (sB_BadNumber : PySem.W.subIn K (.ref CBadNumber) (.ref CBracketError) = some true)
    (eg_BadText : PySem.W.findIn K (.ref CBadText) "__getattribute__" = some (some (.builtin "BaseException.__getattribute__")))
    (ek_BadText : PySem.W.findIn K (.ref CBadText) "__getattr__" = some none)
    (ed_BadText : PySem.W.hasDictIn K CBadText = true)
    (ea_BadText : PySem.W.findIn K (.ref CBadText) "__class__" = some (some (.builtin "object.__class__")))
    (em_BadText : PySem.W.mroIn K CBadText (.type "object") = some true)
    (i_BadText_BracketError : PySem.W.kitOne K (.ref CBadText) (.ref CBracketError) = some true)
    (i_BadText_BadRow : PySem.W.kitOne K (.ref CBadText) (.ref CBadRow) = some false)
    (i_BadText_NoFilling : PySem.W.kitOne K (.ref CBadText) (.ref CNoFilling) = some false)
    (i_BadText_BadNumber : PySem.W.kitOne K (.ref CBadText) (.ref CBadNumber) = some false)
    (i_BadText_BadText : PySem.W.kitOne K (.ref CBadText) (.ref CBadText) = some true)
    (i_BadText_BadPrices : PySem.W.kitOne K (.ref CBadText) (.ref CBadPrices) = some false)
    (i_BadText_ValueError : PySem.W.kitOne K (.ref CBadText) (.type "ValueError") = some true)
    (sB_BadText : PySem.W.subIn K (.ref CBadText) (.ref CBracketError) = some true)
    (eg_BadPrices : PySem.W.findIn K (.ref CBadPrices) "__getattribute__" = some (some (.builtin "BaseException.__getattribute__")))
    (ek_BadPrices : PySem.W.findIn K (.ref CBadPrices) "__getattr__" = some none)
    (ed_BadPrices : PySem.W.hasDictIn K CBadPrices = true)
    (ea_BadPrices : PySem.W.findIn K (.ref CBadPrices) "__class__" = some (some (.builtin "object.__class__")))
    (em_BadPrices : PySem.W.mroIn K CBadPrices (.type "object") = some true)
    (i_BadPrices_BracketError : PySem.W.kitOne K (.ref CBadPrices) (.ref CBracketError) = some true)
    (i_BadPrices_BadRow : PySem.W.kitOne K (.ref CBadPrices) (.ref CBadRow) = some false)
    (i_BadPrices_NoFilling : PySem.W.kitOne K (.ref CBadPrices) (.ref CNoFilling) = some false)
    (i_BadPrices_BadNumber : PySem.W.kitOne K (.ref CBadPrices) (.ref CBadNumber) = some false)
    (i_BadPrices_BadText : PySem.W.kitOne K (.ref CBadPrices) (.ref CBadText) = some false)
    (i_BadPrices_BadPrices : PySem.W.kitOne K (.ref CBadPrices) (.ref CBadPrices) = some true)
    (i_BadPrices_ValueError : PySem.W.kitOne K (.ref CBadPrices) (.type "ValueError") = some true)
    (sB_BadPrices : PySem.W.subIn K (.ref CBadPrices) (.ref CBracketError) = some true)
    (pg_Answer : PySem.W.plainGet K CAnswer Str.empty = true)
    (hd_Answer : PySem.W.hasDictIn K CAnswer = true)
    (po_Answer : PySem.W.plainOver K CAnswer = true)
    (sa_Answer : PySem.W.findIn K (.ref CAnswer) "__setattr__" = some (some (.builtin "object.__setattr__")))
    (ha_Answer : PySem.W.findIn K (.ref CAnswer) "__class__" = some (some (.builtin "object.__class__")))
    (hm_Answer : PySem.W.mroIn K CAnswer (.type "object") = some true)
    (ma_Answer : PySem.W.makesIn K CAnswer = true)
    (kc_Answer : PySem.W.keepIn K (.ref CAnswer) = true)
    (na_text_Answer : PySem.W.findIn K (.ref CAnswer) "text" = some none)
    (na_many_Answer : PySem.W.findIn K (.ref CAnswer) "many" = some none)
    (na_levels_Answer : PySem.W.findIn K (.ref CAnswer) "levels" = some none)
    (oi_Answer : PySem.W.findIn K (.ref CAnswer) "__init__" = some (some (.builtin "object.__init__")))
    (ke_Answer_Answer : PySem.W.kitOne K (.ref CAnswer) (.ref CAnswer) = some true)
    (ke_Filled_Answer : PySem.W.kitOne K (.ref CAnswer) (.ref CFilled) = some false)
    (ke_Uneven_Answer : PySem.W.kitOne K (.ref CAnswer) (.ref CUneven) = some false)
    (ke_Early_Answer : PySem.W.kitOne K (.ref CAnswer) (.ref CEarly) = some false)
    (ke_Late_Answer : PySem.W.kitOne K (.ref CAnswer) (.ref CLate) = some false)
    (ke_Cheapest_Answer : PySem.W.kitOne K (.ref CAnswer) (.ref CCheapest) = some false)
    (pg_Filled : PySem.W.plainGet K CFilled Str.empty = true)
    (hd_Filled : PySem.W.hasDictIn K CFilled = true)
    (po_Filled : PySem.W.plainOver K CFilled = true)
    (sa_Filled : PySem.W.findIn K (.ref CFilled) "__setattr__" = some (some (.builtin "object.__setattr__")))
    (ha_Filled : PySem.W.findIn K (.ref CFilled) "__class__" = some (some (.builtin "object.__class__")))
    (hm_Filled : PySem.W.mroIn K CFilled (.type "object") = some true)
    (ma_Filled : PySem.W.makesIn K CFilled = true)
    (kc_Filled : PySem.W.keepIn K (.ref CFilled) = true)
    (na_text_Filled : PySem.W.findIn K (.ref CFilled) "text" = some none)
    (na_many_Filled : PySem.W.findIn K (.ref CFilled) "many" = some none)
    (na_levels_Filled : PySem.W.findIn K (.ref CFilled) "levels" = some none)
    (ke_Answer_Filled : PySem.W.kitOne K (.ref CFilled) (.ref CAnswer) = some true)
    (ke_Filled_Filled : PySem.W.kitOne K (.ref CFilled) (.ref CFilled) = some true)
    (ke_Uneven_Filled : PySem.W.kitOne K (.ref CFilled) (.ref CUneven) = some false)
    (ke_Early_Filled : PySem.W.kitOne K (.ref CFilled) (.ref CEarly) = some false)
    (ke_Late_Filled : PySem.W.kitOne K (.ref CFilled) (.ref CLate) = some false)
    (ke_Cheapest_Filled : PySem.W.kitOne K (.ref CFilled) (.ref CCheapest) = some false)
    (pg_Uneven : PySem.W.plainGet K CUneven Str.empty = true)
    (hd_Uneven : PySem.W.hasDictIn K CUneven = true)
    (po_Uneven : PySem.W.plainOver K CUneven = true)
    (sa_Uneven : PySem.W.findIn K (.ref CUneven) "__setattr__" = some (some (.builtin "object.__setattr__")))
    (ha_Uneven : PySem.W.findIn K (.ref CUneven) "__class__" = some (some (.builtin "object.__class__")))
    (hm_Uneven : PySem.W.mroIn K CUneven (.type "object") = some true)
    (ma_Uneven : PySem.W.makesIn K CUneven = true)
    (kc_Uneven : PySem.W.keepIn K (.ref CUneven) = true)
    (na_text_Uneven : PySem.W.findIn K (.ref CUneven) "text" = some none)
    (na_many_Uneven : PySem.W.findIn K (.ref CUneven) "many" = some none)
    (na_levels_Uneven : PySem.W.findIn K (.ref CUneven) "levels" = some none)
    (oi_Uneven : PySem.W.findIn K (.ref CUneven) "__init__" = some (some (.builtin "object.__init__")))
    (ke_Answer_Uneven : PySem.W.kitOne K (.ref CUneven) (.ref CAnswer) = some true)
    (ke_Filled_Uneven : PySem.W.kitOne K (.ref CUneven) (.ref CFilled) = some false)
    (ke_Uneven_Uneven : PySem.W.kitOne K (.ref CUneven) (.ref CUneven) = some true)
    (ke_Early_Uneven : PySem.W.kitOne K (.ref CUneven) (.ref CEarly) = some false)
    (ke_Late_Uneven : PySem.W.kitOne K (.ref CUneven) (.ref CLate) = some false)
    (ke_Cheapest_Uneven : PySem.W.kitOne K (.ref CUneven) (.ref CCheapest) = some false)
    (pg_Early : PySem.W.plainGet K CEarly Str.empty = true)
    (hd_Early : PySem.W.hasDictIn K CEarly = true)
    (po_Early : PySem.W.plainOver K CEarly = true)
    (sa_Early : PySem.W.findIn K (.ref CEarly) "__setattr__" = some (some (.builtin "object.__setattr__")))
    (ha_Early : PySem.W.findIn K (.ref CEarly) "__class__" = some (some (.builtin "object.__class__")))
    (hm_Early : PySem.W.mroIn K CEarly (.type "object") = some true)
    (ma_Early : PySem.W.makesIn K CEarly = true)
    (kc_Early : PySem.W.keepIn K (.ref CEarly) = true)
    (na_text_Early : PySem.W.findIn K (.ref CEarly) "text" = some none)
    (na_many_Early : PySem.W.findIn K (.ref CEarly) "many" = some none)
    (na_levels_Early : PySem.W.findIn K (.ref CEarly) "levels" = some none)
    (ke_Answer_Early : PySem.W.kitOne K (.ref CEarly) (.ref CAnswer) = some true)
    (ke_Filled_Early : PySem.W.kitOne K (.ref CEarly) (.ref CFilled) = some false)
    (ke_Uneven_Early : PySem.W.kitOne K (.ref CEarly) (.ref CUneven) = some false)
    (ke_Early_Early : PySem.W.kitOne K (.ref CEarly) (.ref CEarly) = some true)
    (ke_Late_Early : PySem.W.kitOne K (.ref CEarly) (.ref CLate) = some false)
    (ke_Cheapest_Early : PySem.W.kitOne K (.ref CEarly) (.ref CCheapest) = some false)
    (pg_Late : PySem.W.plainGet K CLate Str.empty = true)
    (hd_Late : PySem.W.hasDictIn K CLate = true)
    (po_Late : PySem.W.plainOver K CLate = true)
    (sa_Late : PySem.W.findIn K (.ref CLate) "__setattr__" = some (some (.builtin "object.__setattr__")))
    (ha_Late : PySem.W.findIn K (.ref CLate) "__class__" = some (some (.builtin "object.__class__")))
    (hm_Late : PySem.W.mroIn K CLate (.type "object") = some true)
    (ma_Late : PySem.W.makesIn K CLate = true)
    (kc_Late : PySem.W.keepIn K (.ref CLate) = true)
    (na_text_Late : PySem.W.findIn K (.ref CLate) "text" = some none)
    (na_many_Late : PySem.W.findIn K (.ref CLate) "many" = some none)
    (na_levels_Late : PySem.W.findIn K (.ref CLate) "levels" = some none)
    (ke_Answer_Late : PySem.W.kitOne K (.ref CLate) (.ref CAnswer) = some true)
    (ke_Filled_Late : PySem.W.kitOne K (.ref CLate) (.ref CFilled) = some false)
    (ke_Uneven_Late : PySem.W.kitOne K (.ref CLate) (.ref CUneven) = some false)
    (ke_Early_Late : PySem.W.kitOne K (.ref CLate) (.ref CEarly) = some false)
    (ke_Late_Late : PySem.W.kitOne K (.ref CLate) (.ref CLate) = some true)
    (ke_Cheapest_Late : PySem.W.kitOne K (.ref CLate) (.ref CCheapest) = some false)
    (pg_Cheapest : PySem.W.plainGet K CCheapest Str.empty = true)
    (hd_Cheapest : PySem.W.hasDictIn K CCheapest = true)
    (po_Cheapest : PySem.W.plainOver K CCheapest = true)
    (sa_Cheapest : PySem.W.findIn K (.ref CCheapest) "__setattr__" = some (some (.builtin "object.__setattr__")))
    (ha_Cheapest : PySem.W.findIn K (.ref CCheapest) "__class__" = some (some (.builtin "object.__class__")))
    (hm_Cheapest : PySem.W.mroIn K CCheapest (.type "object") = some true)
    (ma_Cheapest : PySem.W.makesIn K CCheapest = true)
    (kc_Cheapest : PySem.W.keepIn K (.ref CCheapest) = true)
    (na_text_Cheapest : PySem.W.findIn K (.ref CCheapest) "text" = some none)
    (na_many_Cheapest : PySem.W.findIn K (.ref CCheapest) "many" = some none)
    (na_levels_Cheapest : PySem.W.findIn K (.ref CCheapest) "levels" = some none)
    (ke_Answer_Cheapest : PySem.W.kitOne K (.ref CCheapest) (.ref CAnswer) = some true)
    (ke_Filled_Cheapest : PySem.W.kitOne K (.ref CCheapest) (.ref CFilled) = some false)
    (ke_Uneven_Cheapest : PySem.W.kitOne K (.ref CCheapest) (.ref CUneven) = some false)
    (ke_Early_Cheapest : PySem.W.kitOne K (.ref CCheapest) (.ref CEarly) = some false)
    (ke_Late_Cheapest : PySem.W.kitOne K (.ref CCheapest) (.ref CLate) = some false)
    (ke_Cheapest_Cheapest : PySem.W.kitOne K (.ref CCheapest) (.ref CCheapest) = some true) :
    ∃ fd : FuncData, (∀ (s : Shared) (v : Value), BindsTo s fd ⟨[v], []⟩ [("_law_script", v)]) ∧ ∀ base : Heap, K.In base → base.Ns mainGlobals mg → FnOk l.prog w K mg base CX0 10 fa fd ["_law_script"] (spEnd K) := by
  have e := hfa.symm.trans (PySem.W.mg_of X G a27)
  cases e
  have F1 := fun_mk (st := sAskedRow) l1 c1 k1
  have F2 := fun_mk (st := sDepthsOf) l2 c2 k2
  have F3 := fun_mk (st := sIsClosed) l3 c3 k3
  have F4 := fun_mk (st := sIsFilling) l4 c4 k4
  have F5 := fun_mk (st := sBehind) l5 c5 k5
  have F6 := fun_mk (st := sAskedFilling) l6 c6 k6
  have F7 := fun_mk (st := sPartners) l7 c7 k7
  have F8 := fun_mk (st := sDepths) l8 c8 k8
  have F9 := fun_mk (st := sIsPrice) l9 c9 k9
  have F10 := fun_mk (st := sCheapest) l10 c10 k10
  have F11 := fun_mk (st := sMoresOf) l11 c11 k11
  have F12 := fun_mk (st := sOpened) l12 c12 k12
  have F13 := fun_mk (st := sLevelsOf) l13 c13 k13
  have F14 := fun_mk (st := sTableOf) l14 c14 k14
  have F15 := fun_mk (st := sHowMany) l15 c15 k15
  have F16 := fun_mk (st := sTold) l16 c16 k16
  have F17 := fun_mk (st := sNumberOf) l17 c17 k17
  have F18 := fun_mk (st := sEarliest) l18 c18 k18
  have F19 := fun_mk (st := sFilled) l19 c19 k19
  have F20 := fun_mk (st := sFirst) l20 c20 k20
  have F21 := fun_mk (st := sLast) l21 c21 k21
  have F22 := fun_mk (st := sSettled) l22 c22 k22
  have F23 := fun_mk (st := sLawRowAsked) l23 c23 k23
  have F24 := fun_mk (st := sLawNoneAsked) l24 c24 k24
  have F25 := fun_mk (st := sLawOthersAsked) l25 c25 k25
  have F26 := fun_mk (st := sLawTold) l26 c26 k26
  have F27 := fun_mk (st := sLaw) l27 c27 k27
  have F100 := fun_mk (st := sInitFilled) l100 c100 k100
  have F101 := fun_mk (st := sInitEarly) l101 c101 k101
  have F102 := fun_mk (st := sInitLate) l102 c102 k102
  have F103 := fun_mk (st := sInitCheapest) l103 c103 k103
  have T : Txt K mg := {
    n_ValueError := PySem.W.mg_none_of X G z_ValueError,
    n_all := PySem.W.mg_none_of X G z_all,
    n_bool := PySem.W.mg_none_of X G z_bool,
    n_enumerate := PySem.W.mg_none_of X G z_enumerate,
    n_int := PySem.W.mg_none_of X G z_int,
    n_isinstance := PySem.W.mg_none_of X G z_isinstance,
    n_len := PySem.W.mg_none_of X G z_len,
    n_list := PySem.W.mg_none_of X G z_list,
    n_max := PySem.W.mg_none_of X G z_max,
    n_min := PySem.W.mg_none_of X G z_min,
    n_range := PySem.W.mg_none_of X G z_range,
    n_reversed := PySem.W.mg_none_of X G z_reversed,
    n_str := PySem.W.mg_none_of X G z_str,
    n_tuple := PySem.W.mg_none_of X G z_tuple,
    n_zip := PySem.W.mg_none_of X G z_zip,
    f_asked_row := ⟨f1, _, F1, PySem.W.mg_of X G a1, F1.binds (ps := ["row"]) fun _ _ _ _ _ _ us hl => match us, hl with | [_], _ => rfl⟩,
    f_depths_of := ⟨f2, _, F2, PySem.W.mg_of X G a2, F2.binds (ps := ["text"]) fun _ _ _ _ _ _ us hl => match us, hl with | [_], _ => rfl⟩,
    f_is_closed := ⟨f3, _, F3, PySem.W.mg_of X G a3, F3.binds (ps := ["text"]) fun _ _ _ _ _ _ us hl => match us, hl with | [_], _ => rfl⟩,
    f_is_filling := ⟨f4, _, F4, PySem.W.mg_of X G a4, F4.binds (ps := ["row", "text"]) fun _ _ _ _ _ _ us hl => match us, hl with | [_, _], _ => rfl⟩,
    f_behind := ⟨f5, _, F5, PySem.W.mg_of X G a5, F5.binds (ps := ["row"]) fun _ _ _ _ _ _ us hl => match us, hl with | [_], _ => rfl⟩,
    f_asked_filling := ⟨f6, _, F6, PySem.W.mg_of X G a6, F6.binds (ps := ["row"]) fun _ _ _ _ _ _ us hl => match us, hl with | [_], _ => rfl⟩,
    f_partners := ⟨f7, _, F7, PySem.W.mg_of X G a7, F7.binds (ps := ["row"]) fun _ _ _ _ _ _ us hl => match us, hl with | [_], _ => rfl⟩,
    f_depths := ⟨f8, _, F8, PySem.W.mg_of X G a8, F8.binds (ps := ["row"]) fun _ _ _ _ _ _ us hl => match us, hl with | [_], _ => rfl⟩,
    f_is_price := ⟨f9, _, F9, PySem.W.mg_of X G a9, F9.binds (ps := ["thing"]) fun _ _ _ _ _ _ us hl => match us, hl with | [_], _ => rfl⟩,
    f_cheapest := ⟨f10, _, F10, PySem.W.mg_of X G a10, F10.binds (ps := ["row", "prices"]) fun _ _ _ _ _ _ us hl => match us, hl with | [_, _], _ => rfl⟩,
    f_mores_of := ⟨f11, _, F11, PySem.W.mg_of X G a11, F11.binds (ps := ["row", "prices"]) fun _ _ _ _ _ _ us hl => match us, hl with | [_, _], _ => rfl⟩,
    f_opened := ⟨f12, _, F12, PySem.W.mg_of X G a12, F12.binds (ps := ["row", "mores"]) fun _ _ _ _ _ _ us hl => match us, hl with | [_, _], _ => rfl⟩,
    f_levels_of := ⟨f13, _, F13, PySem.W.mg_of X G a13, F13.binds (ps := ["row", "text", "mores"]) fun _ _ _ _ _ _ us hl => match us, hl with | [_, _, _], _ => rfl⟩,
    f_table_of := ⟨f14, _, F14, PySem.W.mg_of X G a14, F14.binds (ps := ["row"]) fun _ _ _ _ _ _ us hl => match us, hl with | [_], _ => rfl⟩,
    f_how_many := ⟨f15, _, F15, PySem.W.mg_of X G a15, F15.binds (ps := ["row"]) fun _ _ _ _ _ _ us hl => match us, hl with | [_], _ => rfl⟩,
    f_told := ⟨f16, _, F16, PySem.W.mg_of X G a16, F16.binds (ps := ["row", "number"]) fun _ _ _ _ _ _ us hl => match us, hl with | [_, _], _ => rfl⟩,
    f_number_of := ⟨f17, _, F17, PySem.W.mg_of X G a17, F17.binds (ps := ["row", "text"]) fun _ _ _ _ _ _ us hl => match us, hl with | [_, _], _ => rfl⟩,
    f_earliest := ⟨f18, _, F18, PySem.W.mg_of X G a18, F18.binds (ps := ["row"]) fun _ _ _ _ _ _ us hl => match us, hl with | [_], _ => rfl⟩,
    f_filled := ⟨f19, _, F19, PySem.W.mg_of X G a19, F19.binds (ps := ["row"]) fun _ _ _ _ _ _ us hl => match us, hl with | [_], _ => rfl⟩,
    f_first := ⟨f20, _, F20, PySem.W.mg_of X G a20, F20.binds (ps := ["row"]) fun _ _ _ _ _ _ us hl => match us, hl with | [_], _ => rfl⟩,
    f_last := ⟨f21, _, F21, PySem.W.mg_of X G a21, F21.binds (ps := ["row"]) fun _ _ _ _ _ _ us hl => match us, hl with | [_], _ => rfl⟩,
    f_settled := ⟨f22, _, F22, PySem.W.mg_of X G a22, F22.binds (ps := ["row"]) fun _ _ _ _ _ _ us hl => match us, hl with | [_], _ => rfl⟩,
    f__law_row_asked := ⟨f23, _, F23, PySem.W.mg_of X G a23, F23.binds (ps := ["_law_which", "_law_more"]) fun _ _ _ _ _ _ us hl => match us, hl with | [_, _], _ => rfl⟩,
    f__law_none_asked := ⟨f24, _, F24, PySem.W.mg_of X G a24, F24.binds (ps := ["_law_which", "_law_more"]) fun _ _ _ _ _ _ us hl => match us, hl with | [_, _], _ => rfl⟩,
    f__law_others_asked := ⟨f25, _, F25, PySem.W.mg_of X G a25, F25.binds (ps := ["_law_kind", "_law_which", "_law_more"]) fun _ _ _ _ _ _ us hl => match us, hl with | [_, _, _], _ => rfl⟩,
    f__law_told := ⟨f26, _, F26, PySem.W.mg_of X G a26, F26.binds (ps := ["_law_kind", "_law_which", "_law_more"]) fun _ _ _ _ _ _ us hl => match us, hl with | [_, _, _], _ => rfl⟩,
    c_BracketError := CBracketError,
    g_BracketError := PySem.W.mg_of X G aCBracketError,
    k_BracketError := kx_BracketError,
    b_BracketError := bx_BracketError,
    t_BracketError := tx_BracketError,
    x_BracketError := x_BracketError,
    c_BadRow := CBadRow,
    g_BadRow := PySem.W.mg_of X G aCBadRow,
    k_BadRow := kx_BadRow,
    b_BadRow := bx_BadRow,
    t_BadRow := tx_BadRow,
    x_BadRow := x_BadRow,
    c_NoFilling := CNoFilling,
    g_NoFilling := PySem.W.mg_of X G aCNoFilling,
    k_NoFilling := kx_NoFilling,
    b_NoFilling := bx_NoFilling,
    t_NoFilling := tx_NoFilling,
    x_NoFilling := x_NoFilling,
    c_BadNumber := CBadNumber,
    g_BadNumber := PySem.W.mg_of X G aCBadNumber,
    k_BadNumber := kx_BadNumber,
    b_BadNumber := bx_BadNumber,
    t_BadNumber := tx_BadNumber,
    x_BadNumber := x_BadNumber,
    c_BadText := CBadText,
    g_BadText := PySem.W.mg_of X G aCBadText,
    k_BadText := kx_BadText,
    b_BadText := bx_BadText,
    t_BadText := tx_BadText,
    x_BadText := x_BadText,
    c_BadPrices := CBadPrices,
    g_BadPrices := PySem.W.mg_of X G aCBadPrices,
    k_BadPrices := kx_BadPrices,
    b_BadPrices := bx_BadPrices,
    t_BadPrices := tx_BadPrices,
    x_BadPrices := x_BadPrices,
    e_BadRow := ⟨eg_BadRow, ek_BadRow, bx_BadRow, ed_BadRow, ea_BadRow, hnO, htO, em_BadRow⟩,
    i_BadRow_BracketError := i_BadRow_BracketError,
    i_BadRow_BadRow := i_BadRow_BadRow,
    i_BadRow_NoFilling := i_BadRow_NoFilling,
    i_BadRow_BadNumber := i_BadRow_BadNumber,
    i_BadRow_BadText := i_BadRow_BadText,
    i_BadRow_BadPrices := i_BadRow_BadPrices,
    i_BadRow_ValueError := i_BadRow_ValueError,
    s_BadRow := PySem.W.exm_ref bx_BracketError hdB tx_BracketError sB_BadRow,
    e_NoFilling := ⟨eg_NoFilling, ek_NoFilling, bx_NoFilling, ed_NoFilling, ea_NoFilling, hnO, htO, em_NoFilling⟩,
    i_NoFilling_BracketError := i_NoFilling_BracketError,
    i_NoFilling_BadRow := i_NoFilling_BadRow,
    i_NoFilling_NoFilling := i_NoFilling_NoFilling,
    i_NoFilling_BadNumber := i_NoFilling_BadNumber,
    i_NoFilling_BadText := i_NoFilling_BadText,
    i_NoFilling_BadPrices := i_NoFilling_BadPrices,
    i_NoFilling_ValueError := i_NoFilling_ValueError,
    s_NoFilling := PySem.W.exm_ref bx_BracketError hdB tx_BracketError sB_NoFilling,
    e_BadNumber := ⟨eg_BadNumber, ek_BadNumber, bx_BadNumber, ed_BadNumber, ea_BadNumber, hnO, htO, em_BadNumber⟩,
    i_BadNumber_BracketError := i_BadNumber_BracketError,
    i_BadNumber_BadRow := i_BadNumber_BadRow,
    i_BadNumber_NoFilling := i_BadNumber_NoFilling,
    i_BadNumber_BadNumber := i_BadNumber_BadNumber,
    i_BadNumber_BadText := i_BadNumber_BadText,
    i_BadNumber_BadPrices := i_BadNumber_BadPrices,
    i_BadNumber_ValueError := i_BadNumber_ValueError,
    s_BadNumber := PySem.W.exm_ref bx_BracketError hdB tx_BracketError sB_BadNumber,
    e_BadText := ⟨eg_BadText, ek_BadText, bx_BadText, ed_BadText, ea_BadText, hnO, htO, em_BadText⟩,
    i_BadText_BracketError := i_BadText_BracketError,
    i_BadText_BadRow := i_BadText_BadRow,
    i_BadText_NoFilling := i_BadText_NoFilling,
    i_BadText_BadNumber := i_BadText_BadNumber,
    i_BadText_BadText := i_BadText_BadText,
    i_BadText_BadPrices := i_BadText_BadPrices,
    i_BadText_ValueError := i_BadText_ValueError,
    s_BadText := PySem.W.exm_ref bx_BracketError hdB tx_BracketError sB_BadText,
    e_BadPrices := ⟨eg_BadPrices, ek_BadPrices, bx_BadPrices, ed_BadPrices, ea_BadPrices, hnO, htO, em_BadPrices⟩,
    i_BadPrices_BracketError := i_BadPrices_BracketError,
    i_BadPrices_BadRow := i_BadPrices_BadRow,
    i_BadPrices_NoFilling := i_BadPrices_NoFilling,
    i_BadPrices_BadNumber := i_BadPrices_BadNumber,
    i_BadPrices_BadText := i_BadPrices_BadText,
    i_BadPrices_BadPrices := i_BadPrices_BadPrices,
    i_BadPrices_ValueError := i_BadPrices_ValueError,
    s_BadPrices := PySem.W.exm_ref bx_BracketError hdB tx_BracketError sB_BadPrices,
    c_Answer := CAnswer,
    g_Answer := PySem.W.mg_of X G aCAnswer,
    o_Answer := ⟨⟨pg_Answer, hd_Answer, po_Answer, sa_Answer⟩, ha_Answer, hnO, htO, hm_Answer⟩,
    na_Answer_text := na_text_Answer,
    na_Answer_many := na_many_Answer,
    na_Answer_levels := na_levels_Answer,
    pl_Answer := ⟨ma_Answer, oi_Answer, kc_Answer⟩,
    ke_Answer_Answer := ke_Answer_Answer,
    ke_Answer_Filled := ke_Filled_Answer,
    ke_Answer_Uneven := ke_Uneven_Answer,
    ke_Answer_Early := ke_Early_Answer,
    ke_Answer_Late := ke_Late_Answer,
    ke_Answer_Cheapest := ke_Cheapest_Answer,
    c_Filled := CFilled,
    g_Filled := PySem.W.mg_of X G aCFilled,
    o_Filled := ⟨⟨pg_Filled, hd_Filled, po_Filled, sa_Filled⟩, ha_Filled, hnO, htO, hm_Filled⟩,
    na_Filled_text := na_text_Filled,
    na_Filled_many := na_many_Filled,
    na_Filled_levels := na_levels_Filled,
    i_Filled := ⟨f100, _, F100, F100.binds (ps := ["self", "text"]) fun _ _ _ _ _ _ us hl => match us, hl with | [_, _], _ => rfl⟩,
    mk_Filled := ⟨ma_Filled, a100, i100, kc_Filled⟩,
    ke_Filled_Answer := ke_Answer_Filled,
    ke_Filled_Filled := ke_Filled_Filled,
    ke_Filled_Uneven := ke_Uneven_Filled,
    ke_Filled_Early := ke_Early_Filled,
    ke_Filled_Late := ke_Late_Filled,
    ke_Filled_Cheapest := ke_Cheapest_Filled,
    c_Uneven := CUneven,
    g_Uneven := PySem.W.mg_of X G aCUneven,
    o_Uneven := ⟨⟨pg_Uneven, hd_Uneven, po_Uneven, sa_Uneven⟩, ha_Uneven, hnO, htO, hm_Uneven⟩,
    na_Uneven_text := na_text_Uneven,
    na_Uneven_many := na_many_Uneven,
    na_Uneven_levels := na_levels_Uneven,
    pl_Uneven := ⟨ma_Uneven, oi_Uneven, kc_Uneven⟩,
    ke_Uneven_Answer := ke_Answer_Uneven,
    ke_Uneven_Filled := ke_Filled_Uneven,
    ke_Uneven_Uneven := ke_Uneven_Uneven,
    ke_Uneven_Early := ke_Early_Uneven,
    ke_Uneven_Late := ke_Late_Uneven,
    ke_Uneven_Cheapest := ke_Cheapest_Uneven,
    c_Early := CEarly,
    g_Early := PySem.W.mg_of X G aCEarly,
    o_Early := ⟨⟨pg_Early, hd_Early, po_Early, sa_Early⟩, ha_Early, hnO, htO, hm_Early⟩,
    na_Early_text := na_text_Early,
    na_Early_many := na_many_Early,
    na_Early_levels := na_levels_Early,
    i_Early := ⟨f101, _, F101, F101.binds (ps := ["self", "many"]) fun _ _ _ _ _ _ us hl => match us, hl with | [_, _], _ => rfl⟩,
    mk_Early := ⟨ma_Early, a101, i101, kc_Early⟩,
    ke_Early_Answer := ke_Answer_Early,
    ke_Early_Filled := ke_Filled_Early,
    ke_Early_Uneven := ke_Uneven_Early,
    ke_Early_Early := ke_Early_Early,
    ke_Early_Late := ke_Late_Early,
    ke_Early_Cheapest := ke_Cheapest_Early,
    c_Late := CLate,
    g_Late := PySem.W.mg_of X G aCLate,
    o_Late := ⟨⟨pg_Late, hd_Late, po_Late, sa_Late⟩, ha_Late, hnO, htO, hm_Late⟩,
    na_Late_text := na_text_Late,
    na_Late_many := na_many_Late,
    na_Late_levels := na_levels_Late,
    i_Late := ⟨f102, _, F102, F102.binds (ps := ["self", "many"]) fun _ _ _ _ _ _ us hl => match us, hl with | [_, _], _ => rfl⟩,
    mk_Late := ⟨ma_Late, a102, i102, kc_Late⟩,
    ke_Late_Answer := ke_Answer_Late,
    ke_Late_Filled := ke_Filled_Late,
    ke_Late_Uneven := ke_Uneven_Late,
    ke_Late_Early := ke_Early_Late,
    ke_Late_Late := ke_Late_Late,
    ke_Late_Cheapest := ke_Cheapest_Late,
    c_Cheapest := CCheapest,
    g_Cheapest := PySem.W.mg_of X G aCCheapest,
    o_Cheapest := ⟨⟨pg_Cheapest, hd_Cheapest, po_Cheapest, sa_Cheapest⟩, ha_Cheapest, hnO, htO, hm_Cheapest⟩,
    na_Cheapest_text := na_text_Cheapest,
    na_Cheapest_many := na_many_Cheapest,
    na_Cheapest_levels := na_levels_Cheapest,
    i_Cheapest := ⟨f103, _, F103, F103.binds (ps := ["self", "text", "levels"]) fun _ _ _ _ _ _ us hl => match us, hl with | [_, _, _], _ => rfl⟩,
    mk_Cheapest := ⟨ma_Cheapest, a103, i103, kc_Cheapest⟩,
    ke_Cheapest_Answer := ke_Answer_Cheapest,
    ke_Cheapest_Filled := ke_Filled_Cheapest,
    ke_Cheapest_Uneven := ke_Uneven_Cheapest,
    ke_Cheapest_Early := ke_Early_Cheapest,
    ke_Cheapest_Late := ke_Late_Cheapest,
    ke_Cheapest_Cheapest := ke_Cheapest_Cheapest }
  exact ⟨PySem.W.fnOf "law" "law" (defArgs sLaw) (defBody sLaw) (defScope sLaw) .none kV27 dc27 pm27 an27 cd27 ct27, fun s v => .of_eq rfl, fun base _ _ => okLaw T F27⟩
end HT
open PySem PySem.W PyProof.Rows
set_option maxHeartbeats 0 in
theorem PySem.Challenge.cw_halftold_k07_refused_holds : PySem.Challenge.rw_halftold_k07_refused.Holds := by
  w_on; o_law; k_head; (case hw => w_witness2)
  k_fill
  refine L2.walk_of (l := PySem.Challenge.rw_halftold_k07_refused) (n := 63) (k := 10) (x := "_law_script") (CX := fun _ => L2.CX0) (sp := fun w => HT.spEnd _) rfl (by decide) rfl ⟨rfl, by decide, by decide⟩ (fun w h Y => PySem.W.kIn_of Y) ?F (fun _ _ a ns hl _ hS => ⟨a, ns, rfl, hS, hl, fun _ => rfl⟩) (fun _ _ _ _ _ h => h)
  case F =>
    intro w mg fa h KX G hmg
    refine' HT.all_mk KX G hmg ?a1 ?l1 ?c1 ?k1 ?a2 ?l2 ?c2 ?k2 ?a3 ?l3 ?c3 ?k3 ?a4 ?l4 ?c4 ?k4 ?a5 ?l5 ?c5 ?k5 ?a6 ?l6 ?c6 ?k6 ?a7 ?l7 ?c7 ?k7 ?a8 ?l8 ?c8 ?k8 ?a9 ?l9 ?c9 ?k9 ?a10 ?l10 ?c10 ?k10 ?a11 ?l11 ?c11 ?k11 ?a12 ?l12 ?c12 ?k12 ?a13 ?l13 ?c13 ?k13 ?a14 ?l14 ?c14 ?k14 ?a15 ?l15 ?c15 ?k15 ?a16 ?l16 ?c16 ?k16 ?a17 ?l17 ?c17 ?k17 ?a18 ?l18 ?c18 ?k18 ?a19 ?l19 ?c19 ?k19 ?a20 ?l20 ?c20 ?k20 ?a21 ?l21 ?c21 ?k21 ?a22 ?l22 ?c22 ?k22 ?a23 ?l23 ?c23 ?k23 ?a24 ?l24 ?c24 ?k24 ?a25 ?l25 ?c25 ?k25 ?a26 ?l26 ?c26 ?k26 ?a27 ?l27 ?c27 ?k27 ?aCAnswer ?aCFilled ?aCUneven ?aCEarly ?aCLate ?aCCheapest ?aCBracketError ?aCBadRow ?aCNoFilling ?aCBadNumber ?aCBadText ?aCBadPrices ?a100 ?i100 ?l100 ?c100 ?k100 ?a101 ?i101 ?l101 ?c101 ?k101 ?a102 ?i102 ?l102 ?c102 ?k102 ?a103 ?i103 ?l103 ?c103 ?k103 ?z_ValueError ?z_all ?z_bool ?z_enumerate ?z_int ?z_isinstance ?z_len ?z_list ?z_max ?z_min ?z_range ?z_reversed ?z_str ?z_tuple ?z_zip ?x_BracketError ?kx_BracketError ?bx_BracketError ?tx_BracketError ?x_BadRow ?kx_BadRow ?bx_BadRow ?tx_BadRow ?x_NoFilling ?kx_NoFilling ?bx_NoFilling ?tx_NoFilling ?x_BadNumber ?kx_BadNumber ?bx_BadNumber ?tx_BadNumber ?x_BadText ?kx_BadText ?bx_BadText ?tx_BadText ?x_BadPrices ?kx_BadPrices ?bx_BadPrices ?tx_BadPrices ?hnO ?htO ?hdB ?eg_BadRow ?ek_BadRow ?ed_BadRow ?ea_BadRow ?em_BadRow ?i_BadRow_BracketError ?i_BadRow_BadRow ?i_BadRow_NoFilling ?i_BadRow_BadNumber ?i_BadRow_BadText ?i_BadRow_BadPrices ?i_BadRow_ValueError ?sB_BadRow ?eg_NoFilling ?ek_NoFilling ?ed_NoFilling ?ea_NoFilling ?em_NoFilling ?i_NoFilling_BracketError ?i_NoFilling_BadRow ?i_NoFilling_NoFilling ?i_NoFilling_BadNumber ?i_NoFilling_BadText ?i_NoFilling_BadPrices ?i_NoFilling_ValueError ?sB_NoFilling ?eg_BadNumber ?ek_BadNumber ?ed_BadNumber ?ea_BadNumber ?em_BadNumber ?i_BadNumber_BracketError ?i_BadNumber_BadRow ?i_BadNumber_NoFilling ?i_BadNumber_BadNumber ?i_BadNumber_BadText ?i_BadNumber_BadPrices ?i_BadNumber_ValueError ?sB_BadNumber ?eg_BadText ?ek_BadText ?ed_BadText ?ea_BadText ?em_BadText ?i_BadText_BracketError ?i_BadText_BadRow ?i_BadText_NoFilling ?i_BadText_BadNumber ?i_BadText_BadText ?i_BadText_BadPrices ?i_BadText_ValueError ?sB_BadText ?eg_BadPrices ?ek_BadPrices ?ed_BadPrices ?ea_BadPrices ?em_BadPrices ?i_BadPrices_BracketError ?i_BadPrices_BadRow ?i_BadPrices_NoFilling ?i_BadPrices_BadNumber ?i_BadPrices_BadText ?i_BadPrices_BadPrices ?i_BadPrices_ValueError ?sB_BadPrices ?pg_Answer ?hd_Answer ?po_Answer ?sa_Answer ?ha_Answer ?hm_Answer ?ma_Answer ?kc_Answer ?na_text_Answer ?na_many_Answer ?na_levels_Answer ?oi_Answer ?ke_Answer_Answer ?ke_Filled_Answer ?ke_Uneven_Answer ?ke_Early_Answer ?ke_Late_Answer ?ke_Cheapest_Answer ?pg_Filled ?hd_Filled ?po_Filled ?sa_Filled ?ha_Filled ?hm_Filled ?ma_Filled ?kc_Filled ?na_text_Filled ?na_many_Filled ?na_levels_Filled ?ke_Answer_Filled ?ke_Filled_Filled ?ke_Uneven_Filled ?ke_Early_Filled ?ke_Late_Filled ?ke_Cheapest_Filled ?pg_Uneven ?hd_Uneven ?po_Uneven ?sa_Uneven ?ha_Uneven ?hm_Uneven ?ma_Uneven ?kc_Uneven ?na_text_Uneven ?na_many_Uneven ?na_levels_Uneven ?oi_Uneven ?ke_Answer_Uneven ?ke_Filled_Uneven ?ke_Uneven_Uneven ?ke_Early_Uneven ?ke_Late_Uneven ?ke_Cheapest_Uneven ?pg_Early ?hd_Early ?po_Early ?sa_Early ?ha_Early ?hm_Early ?ma_Early ?kc_Early ?na_text_Early ?na_many_Early ?na_levels_Early ?ke_Answer_Early ?ke_Filled_Early ?ke_Uneven_Early ?ke_Early_Early ?ke_Late_Early ?ke_Cheapest_Early ?pg_Late ?hd_Late ?po_Late ?sa_Late ?ha_Late ?hm_Late ?ma_Late ?kc_Late ?na_text_Late ?na_many_Late ?na_levels_Late ?ke_Answer_Late ?ke_Filled_Late ?ke_Uneven_Late ?ke_Early_Late ?ke_Late_Late ?ke_Cheapest_Late ?pg_Cheapest ?hd_Cheapest ?po_Cheapest ?sa_Cheapest ?ha_Cheapest ?hm_Cheapest ?ma_Cheapest ?kc_Cheapest ?na_text_Cheapest ?na_many_Cheapest ?na_levels_Cheapest ?ke_Answer_Cheapest ?ke_Filled_Cheapest ?ke_Uneven_Cheapest ?ke_Early_Cheapest ?ke_Late_Cheapest ?ke_Cheapest_Cheapest
    (case a1 => k_is)
    (case l1 => k_is)
    (case c1 => k_is)
    (case k1 => k_is)
    (case a2 => k_is)
    (case l2 => k_is)
    (case c2 => k_is)
    (case k2 => k_is)
    (case a3 => k_is)
    (case l3 => k_is)
    (case c3 => k_is)
    (case k3 => k_is)
    (case a4 => k_is)
    (case l4 => k_is)
    (case c4 => k_is)
    (case k4 => k_is)
    (case a5 => k_is)
    (case l5 => k_is)
    (case c5 => k_is)
    (case k5 => k_is)
    (case a6 => k_is)
    (case l6 => k_is)
    (case c6 => k_is)
    (case k6 => k_is)
    (case a7 => k_is)
    (case l7 => k_is)
    (case c7 => k_is)
    (case k7 => k_is)
    (case a8 => k_is)
    (case l8 => k_is)
    (case c8 => k_is)
    (case k8 => k_is)
    (case a9 => k_is)
    (case l9 => k_is)
    (case c9 => k_is)
    (case k9 => k_is)
    (case a10 => k_is)
    (case l10 => k_is)
    (case c10 => k_is)
    (case k10 => k_is)
    (case a11 => k_is)
    (case l11 => k_is)
    (case c11 => k_is)
    (case k11 => k_is)
    (case a12 => k_is)
    (case l12 => k_is)
    (case c12 => k_is)
    (case k12 => k_is)
    (case a13 => k_is)
    (case l13 => k_is)
    (case c13 => k_is)
    (case k13 => k_is)
    (case a14 => k_is)
    (case l14 => k_is)
    (case c14 => k_is)
    (case k14 => k_is)
    (case a15 => k_is)
    (case l15 => k_is)
    (case c15 => k_is)
    (case k15 => k_is)
    (case a16 => k_is)
    (case l16 => k_is)
    (case c16 => k_is)
    (case k16 => k_is)
    (case a17 => k_is)
    (case l17 => k_is)
    (case c17 => k_is)
    (case k17 => k_is)
    (case a18 => k_is)
    (case l18 => k_is)
    (case c18 => k_is)
    (case k18 => k_is)
    (case a19 => k_is)
    (case l19 => k_is)
    (case c19 => k_is)
    (case k19 => k_is)
    (case a20 => k_is)
    (case l20 => k_is)
    (case c20 => k_is)
    (case k20 => k_is)
    (case a21 => k_is)
    (case l21 => k_is)
    (case c21 => k_is)
    (case k21 => k_is)
    (case a22 => k_is)
    (case l22 => k_is)
    (case c22 => k_is)
    (case k22 => k_is)
    (case a23 => k_is)
    (case l23 => k_is)
    (case c23 => k_is)
    (case k23 => k_is)
    (case a24 => k_is)
    (case l24 => k_is)
    (case c24 => k_is)
    (case k24 => k_is)
    (case a25 => k_is)
    (case l25 => k_is)
    (case c25 => k_is)
    (case k25 => k_is)
    (case a26 => k_is)
    (case l26 => k_is)
    (case c26 => k_is)
    (case k26 => k_is)
    (case a27 => k_is)
    (case l27 => k_is)
    (case c27 => k_is)
    (case k27 => k_is)
    (case aCAnswer => k_is)
    (case aCFilled => k_is)
    (case aCUneven => k_is)
    (case aCEarly => k_is)
    (case aCLate => k_is)
    (case aCCheapest => k_is)
    (case aCBracketError => k_is)
    (case aCBadRow => k_is)
    (case aCNoFilling => k_is)
    (case aCBadNumber => k_is)
    (case aCBadText => k_is)
    (case aCBadPrices => k_is)
    (case a100 => k_is)
    (case i100 => k_is)
    (case l100 => k_is)
    (case c100 => k_is)
    (case k100 => k_is)
    (case a101 => k_is)
    (case i101 => k_is)
    (case l101 => k_is)
    (case c101 => k_is)
    (case k101 => k_is)
    (case a102 => k_is)
    (case i102 => k_is)
    (case l102 => k_is)
    (case c102 => k_is)
    (case k102 => k_is)
    (case a103 => k_is)
    (case i103 => k_is)
    (case l103 => k_is)
    (case c103 => k_is)
    (case k103 => k_is)
    (case z_ValueError => k_is)
    (case z_all => k_is)
    (case z_bool => k_is)
    (case z_enumerate => k_is)
    (case z_int => k_is)
    (case z_isinstance => k_is)
    (case z_len => k_is)
    (case z_list => k_is)
    (case z_max => k_is)
    (case z_min => k_is)
    (case z_range => k_is)
    (case z_reversed => k_is)
    (case z_str => k_is)
    (case z_tuple => k_is)
    (case z_zip => k_is)
    (case x_BracketError => k_exc)
    (case kx_BracketError => k_is)
    (case bx_BracketError => k_is)
    (case tx_BracketError => k_is)
    (case x_BadRow => k_exc)
    (case kx_BadRow => k_is)
    (case bx_BadRow => k_is)
    (case tx_BadRow => k_is)
    (case x_NoFilling => k_exc)
    (case kx_NoFilling => k_is)
    (case bx_NoFilling => k_is)
    (case tx_NoFilling => k_is)
    (case x_BadNumber => k_exc)
    (case kx_BadNumber => k_is)
    (case bx_BadNumber => k_is)
    (case tx_BadNumber => k_is)
    (case x_BadText => k_exc)
    (case kx_BadText => k_is)
    (case bx_BadText => k_is)
    (case tx_BadText => k_is)
    (case x_BadPrices => k_exc)
    (case kx_BadPrices => k_is)
    (case bx_BadPrices => k_is)
    (case tx_BadPrices => k_is)
    (case hnO => k_is)
    (case htO => k_is)
    (case hdB => k_is)
    (case eg_BadRow => k_is)
    (case ek_BadRow => k_is)
    (case ed_BadRow => k_is)
    (case ea_BadRow => k_is)
    (case em_BadRow => k_is)
    (case i_BadRow_BracketError => kit_is)
    (case i_BadRow_BadRow => kit_is)
    (case i_BadRow_NoFilling => kit_is)
    (case i_BadRow_BadNumber => kit_is)
    (case i_BadRow_BadText => kit_is)
    (case i_BadRow_BadPrices => kit_is)
    (case i_BadRow_ValueError => kit_is)
    (case sB_BadRow => k_is)
    (case eg_NoFilling => k_is)
    (case ek_NoFilling => k_is)
    (case ed_NoFilling => k_is)
    (case ea_NoFilling => k_is)
    (case em_NoFilling => k_is)
    (case i_NoFilling_BracketError => kit_is)
    (case i_NoFilling_BadRow => kit_is)
    (case i_NoFilling_NoFilling => kit_is)
    (case i_NoFilling_BadNumber => kit_is)
    (case i_NoFilling_BadText => kit_is)
    (case i_NoFilling_BadPrices => kit_is)
    (case i_NoFilling_ValueError => kit_is)
    (case sB_NoFilling => k_is)
    (case eg_BadNumber => k_is)
    (case ek_BadNumber => k_is)
    (case ed_BadNumber => k_is)
    (case ea_BadNumber => k_is)
    (case em_BadNumber => k_is)
    (case i_BadNumber_BracketError => kit_is)
    (case i_BadNumber_BadRow => kit_is)
    (case i_BadNumber_NoFilling => kit_is)
    (case i_BadNumber_BadNumber => kit_is)
    (case i_BadNumber_BadText => kit_is)
    (case i_BadNumber_BadPrices => kit_is)
    (case i_BadNumber_ValueError => kit_is)
    (case sB_BadNumber => k_is)
    (case eg_BadText => k_is)
    (case ek_BadText => k_is)
    (case ed_BadText => k_is)
    (case ea_BadText => k_is)
    (case em_BadText => k_is)
    (case i_BadText_BracketError => kit_is)
    (case i_BadText_BadRow => kit_is)
    (case i_BadText_NoFilling => kit_is)
    (case i_BadText_BadNumber => kit_is)
    (case i_BadText_BadText => kit_is)
    (case i_BadText_BadPrices => kit_is)
    (case i_BadText_ValueError => kit_is)
    (case sB_BadText => k_is)
    (case eg_BadPrices => k_is)
    (case ek_BadPrices => k_is)
    (case ed_BadPrices => k_is)
    (case ea_BadPrices => k_is)
    (case em_BadPrices => k_is)
    (case i_BadPrices_BracketError => kit_is)
    (case i_BadPrices_BadRow => kit_is)
    (case i_BadPrices_NoFilling => kit_is)
    (case i_BadPrices_BadNumber => kit_is)
    (case i_BadPrices_BadText => kit_is)
    (case i_BadPrices_BadPrices => kit_is)
    (case i_BadPrices_ValueError => kit_is)
    (case sB_BadPrices => k_is)
    (case pg_Answer => k_is)
    (case hd_Answer => k_is)
    (case po_Answer => k_is)
    (case sa_Answer => k_is)
    (case ha_Answer => k_is)
    (case hm_Answer => k_is)
    (case ma_Answer => k_is)
    (case kc_Answer => k_is)
    (case na_text_Answer => k_is)
    (case na_many_Answer => k_is)
    (case na_levels_Answer => k_is)
    (case oi_Answer => k_is)
    (case ke_Answer_Answer => kit_is)
    (case ke_Filled_Answer => kit_is)
    (case ke_Uneven_Answer => kit_is)
    (case ke_Early_Answer => kit_is)
    (case ke_Late_Answer => kit_is)
    (case ke_Cheapest_Answer => kit_is)
    (case pg_Filled => k_is)
    (case hd_Filled => k_is)
    (case po_Filled => k_is)
    (case sa_Filled => k_is)
    (case ha_Filled => k_is)
    (case hm_Filled => k_is)
    (case ma_Filled => k_is)
    (case kc_Filled => k_is)
    (case na_text_Filled => k_is)
    (case na_many_Filled => k_is)
    (case na_levels_Filled => k_is)
    (case ke_Answer_Filled => kit_is)
    (case ke_Filled_Filled => kit_is)
    (case ke_Uneven_Filled => kit_is)
    (case ke_Early_Filled => kit_is)
    (case ke_Late_Filled => kit_is)
    (case ke_Cheapest_Filled => kit_is)
    (case pg_Uneven => k_is)
    (case hd_Uneven => k_is)
    (case po_Uneven => k_is)
    (case sa_Uneven => k_is)
    (case ha_Uneven => k_is)
    (case hm_Uneven => k_is)
    (case ma_Uneven => k_is)
    (case kc_Uneven => k_is)
    (case na_text_Uneven => k_is)
    (case na_many_Uneven => k_is)
    (case na_levels_Uneven => k_is)
    (case oi_Uneven => k_is)
    (case ke_Answer_Uneven => kit_is)
    (case ke_Filled_Uneven => kit_is)
    (case ke_Uneven_Uneven => kit_is)
    (case ke_Early_Uneven => kit_is)
    (case ke_Late_Uneven => kit_is)
    (case ke_Cheapest_Uneven => kit_is)
    (case pg_Early => k_is)
    (case hd_Early => k_is)
    (case po_Early => k_is)
    (case sa_Early => k_is)
    (case ha_Early => k_is)
    (case hm_Early => k_is)
    (case ma_Early => k_is)
    (case kc_Early => k_is)
    (case na_text_Early => k_is)
    (case na_many_Early => k_is)
    (case na_levels_Early => k_is)
    (case ke_Answer_Early => kit_is)
    (case ke_Filled_Early => kit_is)
    (case ke_Uneven_Early => kit_is)
    (case ke_Early_Early => kit_is)
    (case ke_Late_Early => kit_is)
    (case ke_Cheapest_Early => kit_is)
    (case pg_Late => k_is)
    (case hd_Late => k_is)
    (case po_Late => k_is)
    (case sa_Late => k_is)
    (case ha_Late => k_is)
    (case hm_Late => k_is)
    (case ma_Late => k_is)
    (case kc_Late => k_is)
    (case na_text_Late => k_is)
    (case na_many_Late => k_is)
    (case na_levels_Late => k_is)
    (case ke_Answer_Late => kit_is)
    (case ke_Filled_Late => kit_is)
    (case ke_Uneven_Late => kit_is)
    (case ke_Early_Late => kit_is)
    (case ke_Late_Late => kit_is)
    (case ke_Cheapest_Late => kit_is)
    (case pg_Cheapest => k_is)
    (case hd_Cheapest => k_is)
    (case po_Cheapest => k_is)
    (case sa_Cheapest => k_is)
    (case ha_Cheapest => k_is)
    (case hm_Cheapest => k_is)
    (case ma_Cheapest => k_is)
    (case kc_Cheapest => k_is)
    (case na_text_Cheapest => k_is)
    (case na_many_Cheapest => k_is)
    (case na_levels_Cheapest => k_is)
    (case ke_Answer_Cheapest => kit_is)
    (case ke_Filled_Cheapest => kit_is)
    (case ke_Uneven_Cheapest => kit_is)
    (case ke_Early_Cheapest => kit_is)
    (case ke_Late_Cheapest => kit_is)
    (case ke_Cheapest_Cheapest => kit_is)
#print axioms PySem.Challenge.cw_halftold_k07_refused_holds

