import PyProof.Rows.All
import HandS.HotCalls
import HandS.CallSlots
import HandS.ExcCtx
import PyProof.Rows.StrCut
import HandS.Steps
import HandS.ExcIs
import HandS.IsInst
import HandS.StrMore
import HandS.TupLe
import HandS.Style
import HandS.Walk
import HandS.WordsExc
import HandS.ExcOwn
import HandS.TryOnly
import HandS.Exc
import HandS.ForMost
import KE.GoesMore
import KE.GoesZip
import KE.GoesEnum
import PyProof.StrBlock2
import PyProof.TupleCall
import PyProof.EqKinds
import PyProof.EqAt
import Wide.FinOn
import OpenK.AllK
import Wide.All
import PySem.Challenge.RW_halftold_k05_closed
set_option Elab.async false
set_option linter.all false
set_option maxRecDepth 100000
set_option maxHeartbeats 4000000
/-! Own base layer over HandS. -/
namespace L2
open PySem PySem.Spec PyProof.Rows
/-- an iterator of new pairs: turn i gives (x, y) with pv i x y -/
def ItP (n : Nat) (pv : Nat → V → V → Prop) : It :=
  ⟨fun i _ => i < n, fun i H v H' => ∃ T x y, v = .ref T ∧ H T = none ∧ H' = upd H T (.tup [x, y]) ∧ pv i x y, fun i _ => i = n⟩
theorem turn_pairs (A0 : Around) {P : Program} {w : World} {K : PySem.W.Frag} {elts : List Expr} {kk : Nat} {tpos : Pos} {I0 : Addr} {fp wr : List Addr} {n : Nat} {Pt : Nat → Array Value → Prop} {St : Nat → Heap → Prop} {Mid : Nat → Addr → Heap → Prop}
    (W : ∀ A : Around, A.handled = none → WalksT P w A I0 fp wr n Pt St Mid) (mem : I0 ∈ fp) (obj : ∀ i h, St i h → ∀ b ∈ fp, ∃ o, h.get? b = some o ∧ ∀ v, o.data ≠ .cell v) {pv : Nat → V → V → Prop}
    (hp : ∀ i vals, Pt i vals → ∃ x y u1 u2, vals = #[u1, u2] ∧ RelV x u1 ∧ RelV y u2 ∧ pv i x y)
    (self : ∀ (A : Around) (i : Nat) (s : Shared) (Q : Value → Shared → Prop) (E : Value → Shared → Prop), St i s.heap → Q (.ref I0) s → wpAny (model P w) A (pyIter (.ref I0)) Q E s) :
    Turn P w K (.Tuple elts kk tpos) (ItP n pv) fp I0 St where
  mem := mem
  obj := obj
  keep := fun i h h' st k => (W { A0 with handled := none } rfl).frame i h h' st k
  item := by
    intro X hP hw hK hc i pins s σ H E I hf st hg
    subst hP hw hK
    have W1 := W X.A (I.ok.hd hc)
    have sub : ∀ b ∈ wr, FpOk X pins H b := fun b hb => hf b (W1.sub b hb)
    refine W1.item i s _ _ hg st fun T vals h' tk hv hT hI hM hk => ?_
    refine ⟨_, rfl, W1.go elts kk tpos i T _ _ _ hM fun h'' st'' hk2 => ?_⟩
    obtain ⟨x, y, u1, u2, rfl, r1, r2, q⟩ := hp i vals hv
    have hTw := W1.apart i T h' hM
    have hk3 : ∀ b o, b ∉ wr → s.heap.get? b = some o → h''.get? b = some o := fun b o hb e => hk2 b o hb (hk b o hb e)
    obtain ⟨oT, eT, cT, nT, dT⟩ := hI
    have new : ObjOk X.prog X.w (upd H T (.tup [x, y])) h'' T (.tup [x, y]) :=
      ⟨by show 2 ≤ sizeLine; decide, [u1, u2], .cons r1 (.cons r2 .nil), ⟨oT, hk2 T oT hTw eT, cT, nT, dT⟩⟩
    have I1 : Inv X pins σ (upd H T (.tup [x, y])) { s with heap := h'', toks := tk } := I.turnedNew (ch := wr) hk3 sub hT new
    refine ⟨.ref T, _, I1, rfl, ⟨T, x, y, rfl, I.hok.fresh hT, rfl, q⟩, st'', fun b hb => ?_⟩
    obtain ⟨o, e, _⟩ := obj i s.heap st b hb
    rw [upd_ne (Nat.ne_of_lt (Nat.lt_of_lt_of_le (Heap.lt_size e) hT))]
    exact (hf b hb).1
  done := by
    intro X hP hw hK hc i pins s σ H E I hf st hg
    subst hP hw hK
    have W1 := W X.A (I.ok.hd hc)
    have e : i = n := hg
    subst e
    exact W1.done s _ _ st fun h' tk hk => ⟨rfl, I.turnedL (t' := tk) (ch := wr) hk fun b hb => hf b (W1.sub b hb)⟩
  self := self
theorem walk_pairs {n : Nat} {pv : Nat → V → V → Prop} : Walk (ItP n pv) n (fun _ => True) (fun i H v H' => ∃ T x y, v = .ref T ∧ H T = none ∧ H' = upd H T (.tup [x, y]) ∧ pv i x y) :=
  ⟨fun _ _ hi _ => hi, fun _ _ => rfl, fun _ _ _ _ _ _ y => y⟩
/-! ### enumerate(text) -/
def pvEnS (x : Str) : Nat → V → V → Prop := fun i a b => a = .int (i : Nat) ∧ ∃ c, x.cps[i]? = some c ∧ b = .str ⟨#[c]⟩
def iEnumS (ta : TA) : TI := fun σ H R => ta σ H fun vs H1 => ∃ x, vs = [.str x] ∧ R (ItP x.cps.size (pvEnS x)) H1
theorem pi_enumS {X : Cx} {e : Expr} {ta : TA} {p pos tpos : Pos} {elts : List Expr} {kk : Nat} (hg : Gl X "enumerate") (hm : X.mg "enumerate" = none) (ha : PA X [e] ta) (hs : starEach [e] X.env = [(false, eval e X.env)] := by rfl) :
    PI X (.Tuple elts kk tpos) (.Call (.Name "enumerate" p) [e] [] pos) (iEnumS ta) := by
  refine ⟨fun pins s σ H R I h => ?_⟩
  refine Call_ (ld_blt I hg hm boot_enumerate (PyProof.Rows.callWith_type1 (thn (ha.run pos pins s σ H _ I h) fun us s1 ⟨vs, H1, I1, r1, q1⟩ => ?_) hs rfl))
  obtain ⟨x, ex, q⟩ := q1
  subst ex
  cases r1 with
  | cons r rr =>
    cases rr
    obtain ⟨t, rfl⟩ := r
    refine call_enumerate_str fun h' he hit hsz hk => wpAny_pyIter_enum he ?_
    have I2 : Inv X pins σ H1 { s1 with heap := h' } := I1.kept (t' := s1.toks) hk
    have ne : s1.heap.objs.size + 1 ≠ s1.heap.objs.size := Nat.succ_ne_self _
    refine ⟨s1.heap.objs.size + 1, (s1.heap.objs.size + 1) :: [s1.heap.objs.size], _, _, H1, rfl, I2,
      turn_pairs X.A (fun A hh => WalksT.enumerateD (Draws.text (A := A.in1) hh s1.heap.objs.size x t) (s1.heap.objs.size + 1) ne (by simpa using ne) (by simp)) (by simp) (fun i h st b hb => ?_) (pv := pvEnS x) (fun i vals hv => ?_)
        (fun A i s Q E st h => let ⟨⟨_, he⟩, _⟩ := st; wpAny_pyIter_enum he h), ⟨⟨.none, he⟩, hit⟩, fun b hb => ?_, q⟩
    · obtain ⟨⟨old, he⟩, ⟨o, ho, hc, hd⟩⟩ := st
      have e' : b = s1.heap.objs.size + 1 ∨ b = s1.heap.objs.size := by simpa using hb
      rcases e' with z | z
      · rw [z]; exact ⟨_, he, fun v q => nomatch q⟩
      · rw [z]; exact ⟨o, ho, fun v q => by rw [hd] at q; cases q⟩
    · obtain ⟨t', y, ⟨c, u, hc, rfl⟩, rfl⟩ := hv
      exact ⟨.int (i : Nat), .str ⟨#[c]⟩, _, _, rfl, ⟨_, rfl⟩, ⟨_, rfl⟩, rfl, c, hc, rfl⟩
    · have e' : b = s1.heap.objs.size + 1 ∨ b = s1.heap.objs.size := by simpa using hb
      have hle : s1.heap.objs.size ≤ b := by
        rcases e' with z | z
        · rw [z]; exact Nat.le_add_right _ _
        · rw [z]; exact Nat.le_refl _
      exact I1.fpOk hle (I1.hok.fresh hle)
/-! ### zip(text, text) -/
def pvZS (x y : Str) : Nat → V → V → Prop := fun i a b => (∃ c, x.cps[i]? = some c ∧ a = .str ⟨#[c]⟩) ∧ ∃ d, y.cps[i]? = some d ∧ b = .str ⟨#[d]⟩
def iZipS (ta : TA) : TI := fun σ H R => ta σ H fun vs H1 => ∃ x y, vs = [.str x, .str y] ∧ R (ItP (min x.cps.size y.cps.size) (pvZS x y)) H1
theorem pi_zipS {X : Cx} {e e2 : Expr} {ta : TA} {p pos tpos : Pos} {elts : List Expr} {kk : Nat} (hg : Gl X "zip") (hm : X.mg "zip" = none) (ha : PA X [e, e2] ta)
    (hs : starEach [e, e2] X.env = (false, eval e X.env) :: starEach [e2] X.env := by rfl) (hpl : (backTo pos (starEach [e2] X.env)).any (·.1) = false := by rfl) :
    PI X (.Tuple elts kk tpos) (.Call (.Name "zip" p) [e, e2] [] pos) (iZipS ta) := by
  refine ⟨fun pins s σ H R I h => ?_⟩
  refine Call_ (ld_blt I hg hm PyProof.Rows.boot_zip (PyProof.Rows.callWith_type1 (thn (ha.run pos pins s σ H _ I h) fun us s1 ⟨vs, H1, I1, r1, q1⟩ => ?_) hs hpl))
  obtain ⟨x, y, ex, q⟩ := q1
  subst ex
  cases r1 with
  | cons r rr =>
    cases rr with
    | cons r' rr =>
      cases rr
      obtain ⟨t, rfl⟩ := r
      obtain ⟨t', rfl⟩ := r'
      refine zip_begins2 (begins_text x t) (begins_text y t') trivial trivial fun h' hz hTI hTO g1 g2 hsz hk => wpAny_pyIter_zip hz ?_
      have I2 : Inv X pins σ H1 { s1 with heap := h' } := I1.kept (t' := s1.toks) hk
      have S := zip_sep2 (N := s1.heap.objs.size) (fp1 := []) (fp2 := []) (fun _ z => nomatch z) (fun _ z => nomatch z)
      refine ⟨s1.heap.objs.size + 4, (s1.heap.objs.size + 4) :: (s1.heap.objs.size + 2) :: (s1.heap.objs.size + 3) :: ([s1.heap.objs.size] ++ [s1.heap.objs.size + 1]), _, _, H1, rfl, I2,
        turn_pairs X.A (fun A hh => WalksT.zipD2 S (Draws.text (A := A.in1) hh s1.heap.objs.size x t) (Draws.text (A := A.in1) hh (s1.heap.objs.size + 1) y t')) (by simp) (fun i h st b hb => ?_) (pv := pvZS x y) (fun i vals hv => ?_)
          (fun A i s Q E st h => wpAny_pyIter_zip st.1 h), ⟨hz, hTI, ⟨_, _, hTO⟩, ⟨_, g1, rfl, rfl⟩, ⟨_, g2, rfl, rfl⟩⟩, fun b hb => ?_, q⟩
      · obtain ⟨hz, hTI, ⟨a1, a2, hTO⟩, ⟨o1, e1, _, d1⟩, ⟨o2, e2, _, d2⟩⟩ := st
        have e' : b = s1.heap.objs.size + 4 ∨ b = s1.heap.objs.size + 2 ∨ b = s1.heap.objs.size + 3 ∨ b = s1.heap.objs.size ∨ b = s1.heap.objs.size + 1 := by simpa using hb
        rcases e' with z | z | z | z | z
        · rw [z]; exact ⟨_, hz, fun v q => nomatch q⟩
        · rw [z]; exact ⟨_, hTI, fun v q => nomatch q⟩
        · rw [z]; exact ⟨_, hTO, fun v q => nomatch q⟩
        · rw [z]; exact ⟨o1, e1, fun v q => by rw [d1] at q; cases q⟩
        · rw [z]; exact ⟨o2, e2, fun v q => by rw [d2] at q; cases q⟩
      · obtain ⟨x1, x2, ⟨c, u, hc, rfl⟩, ⟨d, u2, hd, rfl⟩, rfl⟩ := hv
        exact ⟨.str ⟨#[c]⟩, .str ⟨#[d]⟩, _, _, rfl, ⟨_, rfl⟩, ⟨_, rfl⟩, ⟨c, hc, rfl⟩, d, hd, rfl⟩
      · have e' : b = s1.heap.objs.size + 4 ∨ b = s1.heap.objs.size + 2 ∨ b = s1.heap.objs.size + 3 ∨ b = s1.heap.objs.size ∨ b = s1.heap.objs.size + 1 := by simpa using hb
        have hle : s1.heap.objs.size ≤ b := by
          rcases e' with z | z | z | z | z
          · rw [z]; exact Nat.le_add_right _ _
          · rw [z]; exact Nat.le_add_right _ _
          · rw [z]; exact Nat.le_add_right _ _
          · rw [z]; exact Nat.le_refl _
          · rw [z]; exact Nat.le_add_right _ _
        exact I1.fpOk hle (I1.hok.fresh hle)
/-! ### text * int -/
def rMulS : R2 := fun x y H Q => ∃ a n, x = .str a ∧ y = .int n ∧ MulOk a n ∧ Q (.str (Txt.mul a n)) H
theorem op_mulS {X : Cx} : OpR X (binaryOp .Mult) rMulS := by
  intro pins s σ H x y v u Q I rx ry h
  obtain ⟨a, n, rfl, rfl, ho, q⟩ := h
  obtain ⟨t, rfl⟩ := rx
  obtain ⟨t', rfl⟩ := ry
  exact SB.mul ho fun t' k => ⟨.str (Txt.mul a n), H, I.tok _, ⟨_, rfl⟩, q⟩
end L2

set_option Elab.async false
set_option linter.all false
set_option maxRecDepth 100000
set_option maxHeartbeats 4000000
/-! Texts as lists of codes. -/
namespace L2
open PySem PySem.Spec PyProof.Rows PySem.Builtin PySem.Builtin.Str PySem.StrLaws
/-- the text of codes l -/
abbrev St_ (l : List Nat) : Str := ⟨l.toArray⟩
abbrev S (l : List Nat) : V := .str (St_ l)
/-- one sign -/
abbrev ch (c : Nat) : V := .str ⟨#[c]⟩
theorem S_one (c : Nat) : S [c] = ch c := rfl
theorem lit_op : (Str.ofString "(") = St_ [40] := by decide +kernel
theorem lit_cl : (Str.ofString ")") = St_ [41] := by decide +kernel
theorem lit_q : (Str.ofString "?") = St_ [63] := by decide +kernel
theorem lit_e : (Str.ofString "") = St_ [] := by decide +kernel
theorem lit_oc : (Str.ofString "()") = St_ [40, 41] := by decide +kernel
theorem lit_co : (Str.ofString ")(") = St_ [41, 40] := by decide +kernel
theorem lit_ocq : (Str.ofString "()?") = St_ [40, 41, 63] := by decide +kernel
theorem S_inj {a b : List Nat} : (S a = S b) = (a = b) := by
  apply propext
  constructor
  · intro h
    have h1 : (St_ a).cps = (St_ b).cps := by rw [V.str.inj h]
    simpa using congrArg Array.toList h1
  · intro h; rw [h]
theorem ch_inj {a b : Nat} : (ch a = ch b) = (a = b) := by
  have := S_inj (a := [a]) (b := [b])
  simpa using this
theorem len_S (l : List Nat) : (St_ l).length = l.length := by simp [Str.length]
theorem add_S (a b : List Nat) : St_ a ++ St_ b = St_ (a ++ b) := by
  have h : St_ a ++ St_ b = (⟨(St_ a).cps ++ (St_ b).cps⟩ : Str) := rfl
  rw [h]
  simp
/-! ### slices -/
theorem cut_from (l : List Nat) (a : Nat) : cutS (St_ l) (some (a : Int)) none = St_ (l.drop a) := by
  unfold cutS
  rw [HT.sIx_nat, HT.sIx_none, len_S]
  show St_ ((l.drop (min a l.length)).take (l.length - min a l.length)) = _
  have e : l.drop (min a l.length) = l.drop a := by
    by_cases h : a ≤ l.length
    · rw [Nat.min_eq_left h]
    · rw [Nat.min_eq_right (by omega), List.drop_length, List.drop_of_length_le (by omega)]
  rw [e, List.take_of_length_le]
  rw [List.length_drop]; omega
theorem cut_to (l : List Nat) (a : Nat) : cutS (St_ l) none (some (a : Int)) = St_ (l.take a) := by
  unfold cutS
  rw [HT.sIx_nat, HT.sIx_none, len_S]
  show St_ ((l.drop 0).take (min a l.length - 0)) = _
  rw [List.drop_zero, Nat.sub_zero]
  by_cases h : a ≤ l.length
  · rw [Nat.min_eq_left h]
  · rw [Nat.min_eq_right (by omega), List.take_length, List.take_of_length_le (by omega)]
theorem cut_neg (l : List Nat) : cutS (St_ l) (some 1) (some (-1)) = St_ ((l.drop 1).take (l.length - 2)) := by
  have e : HT.sIx l.length l.length (some (-1)) = l.length - 1 := by
    show (if (-1 : Int) < 0 then ((-1 : Int) + (l.length : Int)).toNat else min (-1 : Int).toNat l.length) = l.length - 1
    rw [if_pos (by decide)]; omega
  have e2 : HT.sIx l.length 0 (some 1) = min 1 l.length := HT.sIx_nat l.length 0 1
  unfold cutS
  rw [len_S, e2, e]
  show St_ ((l.drop (min 1 l.length)).take (l.length - 1 - min 1 l.length)) = St_ ((l.drop 1).take (l.length - 2))
  cases l with
  | nil => rfl
  | cons x r =>
    have e1 : min 1 (x :: r).length = 1 := by simp
    rw [e1]
    simp
/-! ### join -/
theorem glued_nil (ls : List (List Nat)) (a : List Nat) : (ls.map St_).foldl (fun acc p => acc ++ (St_ []).cps ++ p.cps) a.toArray = (a ++ ls.flatten).toArray := by
  induction ls generalizing a with
  | nil => simp
  | cons x r ih =>
    have e : a.toArray ++ (St_ []).cps ++ (St_ x).cps = (a ++ x).toArray := by simp
    rw [List.map_cons, List.foldl_cons, e, ih]
    simp
theorem join_S (ls : List (List Nat)) : Txt.join (St_ []) (ls.map St_) = St_ ls.flatten := by
  show glued (St_ []) (ls.map St_) = _
  unfold glued
  cases ls with
  | nil => rfl
  | cons x r =>
    have h := glued_nil r x
    show (⟨((r.map St_).foldl (fun acc p => acc ++ (St_ []).cps ++ p.cps) x.toArray)⟩ : Str) = _
    rw [h]
    simp
theorem flat_one (l : List Nat) : (l.map fun c => [c]).flatten = l := by
  induction l with
  | nil => rfl
  | cons x r ih => simp [ih]
theorem join_ch (l : List Nat) : Txt.join (St_ []) ((l.map fun c => [c]).map St_) = St_ l := by rw [join_S, flat_one]
theorem sum_ch (l : List Nat) : ((((l.map fun c => [c]).map St_).map (·.length)).sum + ((l.map fun c => [c]).map St_).length * (St_ []).length) = l.length := by
  have e : (((l.map fun c => [c]).map St_).map (·.length)).sum = l.length := by
    induction l with
    | nil => rfl
    | cons x r ih =>
      rw [List.map_cons, List.map_cons, List.map_cons, List.sum_cons, ih, len_S, List.length_cons]
      show 1 + r.length = r.length + 1
      omega
  rw [e, len_S]
  simp
theorem map_ch (l : List Nat) : ((l.map fun c => [c]).map St_).map V.str = l.map ch := by
  simp
/-! ### count -/
theorem occ_count (l : List Nat) (c : Nat) : ∀ (k n : Nat) (st : Array Nat × Nat), n + k = l.length + 1 → st.2 ≤ n → st.1.size ≤ n →
    (forIn (List.range' n k) st (occBody (St_ l) ⟨#[c]⟩ l.length (l.length + 1))).run.fst.size = st.1.size + (l.drop n).count c
  | 0, n, st, h, _, _ => by
    rw [List.drop_of_length_le (by omega)]
    simp
  | k + 1, n, st, h, h2, h3 => by
    rw [show List.range' n (k + 1) = n :: List.range' (n + 1) k from rfl, List.forIn_cons]
    by_cases hn : n < l.length
    · have ed : l.drop n = l[n] :: l.drop (n + 1) := List.drop_eq_getElem_cons hn
      have hs := subAt_one (St_ l) c n
      rw [len_S] at hs
      by_cases hc : l[n] = c
      · have hx : (St_ l).cps.toList[n]? = some c := by
          show l[n]? = some c
          rw [List.getElem?_eq_getElem hn, hc]
        obtain ⟨a1, a2⟩ := hs.mpr hx
        unfold occBody
        rw [if_pos ⟨⟨⟨by omega, h2⟩, a1⟩, a2⟩]
        have ih := occ_count l c k (n + 1) (st.1.push n, n + (⟨#[c]⟩ : Str).length) (by omega) (Nat.le_refl _) (by simp; omega)
        have e1 : (forIn (List.range' (n + 1) k) (st.1.push n, n + (⟨#[c]⟩ : Str).length) (occBody (St_ l) ⟨#[c]⟩ l.length (l.length + 1))).run.fst.size = st.1.size + (l.drop n).count c := by
          rw [ih, ed, List.count_cons, hc]
          simp
          omega
        exact e1
      · have hx : ¬ (n + (⟨#[c]⟩ : Str).length ≤ l.length ∧ subAt (St_ l) ⟨#[c]⟩ n = true) := fun q => by
          have := hs.mp q
          have e : l[n]? = some c := this
          rw [List.getElem?_eq_getElem hn] at e
          exact hc (Option.some.inj e)
        unfold occBody
        rw [if_neg fun q => hx ⟨q.1.2, q.2⟩]
        have ih := occ_count l c k (n + 1) (st.1, st.2) (by omega) (by show st.2 ≤ n + 1; omega) (by show st.1.size ≤ n + 1; omega)
        have e1 : (forIn (List.range' (n + 1) k) (st.1, st.2) (occBody (St_ l) ⟨#[c]⟩ l.length (l.length + 1))).run.fst.size = st.1.size + (l.drop n).count c := by
          rw [ih, ed, List.count_cons]
          simp [hc]
        exact e1
    · have hx : ¬ (n + (⟨#[c]⟩ : Str).length ≤ l.length) := by
        show ¬ (n + 1 ≤ l.length)
        omega
      unfold occBody
      rw [if_neg fun q => hx q.1.2]
      have ih := occ_count l c k (n + 1) (st.1, st.2) (by omega) (by show st.2 ≤ n + 1; omega) (by show st.1.size ≤ n + 1; omega)
      have e1 : (forIn (List.range' (n + 1) k) (st.1, st.2) (occBody (St_ l) ⟨#[c]⟩ l.length (l.length + 1))).run.fst.size = st.1.size + (l.drop n).count c := by
        rw [ih, List.drop_of_length_le (by omega), List.drop_of_length_le (by omega)]
      exact e1
theorem count_S (l : List Nat) (c : Nat) : Txt.count (St_ l) ⟨#[c]⟩ = (l.count c : Nat) := by
  unfold Txt.count
  rw [occ_eq, len_S]
  have h := occ_count l c (l.length + 1 - 0) 0 (#[], 0) (by omega) (Nat.le_refl _) (by simp)
  rw [Array.length_toList]
  simp only [List.drop_zero] at h
  rw [h]
  simp
/-! ### strip -/
theorem drop_tw (p : Nat → Bool) : ∀ l : List Nat, l.drop (l.takeWhile p).length = l.dropWhile p
  | [] => rfl
  | x :: r => by
    cases h : p x with
    | true => rw [List.takeWhile_cons, List.dropWhile_cons, h]; simpa using drop_tw p r
    | false => rw [List.takeWhile_cons, List.dropWhile_cons, h]; simp
theorem dw_nil (p : Nat → Bool) : ∀ l : List Nat, l.dropWhile p = [] → ∀ c ∈ l, p c = true
  | [], _, c, hc => by cases hc
  | x :: r, h, c, hc => by
    cases hx : p x with
    | true =>
      rw [List.dropWhile_cons, hx] at h
      rcases List.mem_cons.mp hc with e | e
      · rw [e]; exact hx
      · exact dw_nil p r (by simpa using h) c e
    | false =>
      rw [List.dropWhile_cons, hx] at h
      simp at h
theorem tw_le (p : Nat → Bool) : ∀ l : List Nat, (l.takeWhile p).length ≤ l.length
  | [] => Nat.le_refl _
  | x :: r => by
    rw [List.takeWhile_cons]
    split
    · have := tw_le p r
      simp only [List.length_cons]; omega
    · simp
theorem tw_all (p : Nat → Bool) : ∀ l : List Nat, (∀ c ∈ l, p c = true) → l.takeWhile p = l
  | [], _ => rfl
  | x :: r, h => by
    rw [List.takeWhile_cons, h x (List.mem_cons_self ..)]
    simp only [if_true]
    rw [tw_all p r fun c hc => h c (List.mem_cons_of_mem _ hc)]
theorem strip_S (l m : List Nat) : (Txt.stripChars (St_ l) (St_ m) = St_ []) ↔ ∀ c ∈ l, c ∈ m := by
  unfold Txt.stripChars
  rw [PyProof.Rows.stripBy_eq]
  have hg : ∀ c, (St_ m).cps.contains c = m.contains c := fun c => by simp
  have hlo : stripLo (St_ m).cps.contains true (St_ l) = (l.takeWhile m.contains).length := by
    unfold stripLo
    rw [if_pos rfl]
    show (l.takeWhile _).length = _
    congr 1
    congr 1
    funext c
    exact hg c
  constructor
  · intro h c hc
    refine Classical.byContradiction fun hn => ?_
    have h1 : ((St_ l).cps.extract (stripLo (St_ m).cps.contains true (St_ l)) (stripHi (St_ m).cps.contains true (St_ l) (stripLo (St_ m).cps.contains true (St_ l)))).size = 0 := by
      have := congrArg (fun s : Str => s.cps.size) h
      simpa [strSub] using this
    rw [Array.size_extract] at h1
    rw [hlo] at h1
    have hsz : (St_ l).cps.size = l.length := by simp
    rw [hsz] at h1
    -- the first that is not in m
    obtain ⟨x, r, he⟩ : ∃ x r, l.dropWhile m.contains = x :: r := by
      cases hd : l.dropWhile m.contains with
      | cons x r => exact ⟨x, r, rfl⟩
      | nil =>
        have := dw_nil _ l hd c hc
        exact absurd (by simpa using this) hn
    have hx : m.contains x = false := by
      have := List.head?_dropWhile_not m.contains l
      rw [he] at this
      simpa using this
    have happ : l.takeWhile m.contains ++ l.dropWhile m.contains = l := List.takeWhile_append_dropWhile
    have hlen : (l.takeWhile m.contains).length + (l.dropWhile m.contains).length = l.length := by
      rw [← List.length_append, happ]
    rw [he] at hlen
    simp only [List.length_cons] at hlen
    have hhi : (l.takeWhile m.contains).length < stripHi (St_ m).cps.contains true (St_ l) (l.takeWhile m.contains).length := by
      unfold stripHi
      rw [if_pos rfl, len_S]
      have ed : (St_ l).cps.toList.drop (l.takeWhile m.contains).length = x :: r := by
        show l.drop _ = _
        rw [drop_tw, he]
      rw [ed]
      have e3 : ((x :: r).reverse.takeWhile (St_ m).cps.contains).length ≤ r.length := by
        rw [List.reverse_cons, List.takeWhile_append]
        split
        · rename_i hh
          simp only [List.length_append, List.takeWhile_cons, hg, hx]
          simp [hh]
        · have := tw_le (St_ m).cps.contains r.reverse
          simp only [List.length_reverse] at this
          exact this
      omega
    omega
  · intro h
    have e : l.takeWhile m.contains = l := by
      refine tw_all _ l fun c hc => ?_
      simpa using h c hc
    rw [hlo, e]
    unfold strSub
    have : (St_ l).cps.extract l.length (stripHi (St_ m).cps.contains true (St_ l) l.length) = #[] := by
      apply Array.eq_empty_of_size_eq_zero
      rw [Array.size_extract]
      have hsz : (St_ l).cps.size = l.length := by simp
      omega
    rw [this]
/-! ### times -/
theorem mul_S (l : List Nat) (n : Nat) : Txt.mul (St_ l) (n : Int) = St_ (List.replicate n l).flatten := by
  unfold Txt.mul
  by_cases h0 : n = 0
  · subst h0; rfl
  rw [if_neg (by omega)]
  by_cases h1 : ((n : Int) == 1 || (St_ l).length == 0) = true
  · rw [if_pos h1]
    rw [Bool.or_eq_true] at h1
    rcases h1 with h | h
    · have : n = 1 := by have := eq_of_beq h; omega
      subst this
      simp
    · have : l = [] := by
        have := eq_of_beq h
        rw [len_S] at this
        exact List.length_eq_zero_iff.mp this
      subst this
      have : ∀ k, (List.replicate k ([] : List Nat)).flatten = [] := fun k => by simp
      rw [this]
  · rw [if_neg h1]
    have key : ∀ (k : Nat) (a : List Nat), (List.replicate k (St_ l).cps).foldl (· ++ ·) a.toArray = (a ++ (List.replicate k l).flatten).toArray := by
      intro k
      induction k with
      | zero => intro a; simp
      | succ k ih =>
        intro a
        rw [List.replicate_succ, List.foldl_cons]
        have e : a.toArray ++ (St_ l).cps = (a ++ l).toArray := by simp
        rw [e, ih, List.replicate_succ]
        simp
    have := key n []
    simp only [List.nil_append] at this
    rw [Int.toNat_natCast]
    show (⟨_⟩ : Str) = _
    rw [this]
theorem mulOk_S (l : List Nat) (n : Nat) (h : l.length * n ≤ 16777216) (hn : n ≤ 1000000) : MulOk (St_ l) (n : Int) := by
  refine ⟨?_, fun _ _ => ?_, fun _ _ => ?_⟩
  · rw [decide_eq_false (by omega), decide_eq_false (by omega)]
    rfl
  · rw [len_S]
    intro q
    by_cases h0 : n = 0
    · subst h0; omega
    · have h2 : ((2 : Int) ^ 63 - 1) / (n : Int) ≥ 16777216 := by
        apply Int.le_ediv_of_mul_le (by omega)
        have : (16777216 : Int) * (n : Int) ≤ 16777216 * 1000000 := by omega
        omega
      have h3 : l.length ≤ 16777216 := by
        have : l.length * 1 ≤ l.length * n := Nat.mul_le_mul_left _ (by omega)
        omega
      omega
  · rw [len_S, Int.toNat_natCast]
    unfold tooLong
    rw [sizeLine_eq]
    simp
    omega
end L2

set_option Elab.async false
set_option linter.all false
set_option maxRecDepth 100000
set_option maxHeartbeats 4000000
/-! Loops, comprehensions, defs. -/
namespace L2
open PySem PySem.Spec PyProof.Rows
theorem passLN {X : Cx} : Passes (L2N.CX X.prog X.w) X E0 := fun _ _ _ _ _ _ _ h => by
  obtain ⟨_, _, _, _, _, _, _, _, _, _, _, _, z⟩ := h
  exact z.elim
/-- around a body nothing is let out -/
theorem takes0N {X : Cx} : L2N.Takes X (fun _ _ _ _ => False) := fun _ _ x => by
  obtain ⟨_, _, _, _, _, _, _, _, _, _, _, _, _, _, _, _, z⟩ := x
  exact z.elim
theorem Fun.okXN {P : Program} {w : World} {K : PySem.W.Frag} {mg : Str → Option Value} {base : Heap} {x qual : Str} {st : Stmt} {f : Addr} {fd : FuncData} {N ps : List Str} {k : Nat} {sp : Sp} (F : Fun K x qual st f fd) (S : FnScope N ps (defScope st)) (len : ∀ vs H Q E, sp vs H Q E → vs.length = ps.length)
    (hbody : ∀ (cdv : Value) (A : Around) (outer : List Env) (s : Shared) (H : Hp) (vs : List V) (Q : VK) (E : XK), Room k (A.deeper (envOfC qual (defScope st) s.heap.objs.size f cdv)) → sp vs H Q E →
      ∃ t, PSs (cxOf (L2N.CX P w) P w K mg base N qual (defScope st) f cdv A outer s H E) (defBody st) t ∧ t { nx := fun _ H' => Q .non H', rt := Q } (start N vs) H) : FnOk P w K mg base (L2N.CX P w) (k + 1) f fd ps sp := by
  obtain ⟨oc, od, kV, doc, pm, an, cdv, ct, osl, rfl, lk, hcd⟩ := F.ex
  exact fn_of lk hcd S len fun A outer s H vs Q E hr hsp => hbody cdv A outer s H vs Q E hr hsp
/-- a def of the text as it stands -/
structure DefIn (K : PySem.W.Frag) (mg : Str → Option Value) (x q : Str) (st : Stmt) (ps : List Str) : Type where
  a : Addr
  fd : FuncData
  F : Fun K x q st a fd
  g : mg x = some (.ref a)
  b : Binds K fd ps []
theorem Same.new {H : Hp} {p : Addr} {o : HO} (h : H p = none) : Same H (upd H p o) := fun b x e => by
  rw [upd_ne (ne_of_none e h)]
  exact e
/-- what H does not know may change -/
theorem Same.mut {H H' : Hp} {p : Addr} {o : HO} (e : Same H H') (h : H p = none) : Same H (upd H' p o) := fun a u ha => by
  rw [upd_ne (ne_of_none ha h)]
  exact e a u ha
theorem Same.seqT {K : PySem.W.Frag} {H H' : Hp} {a : Addr} {xs : List V} (e : Same H H') (h : SqT K H a xs) : SqT K H' a xs := by
  rcases h with (h | ⟨o, h⟩) | h
  · exact .inl (.inl (e _ _ h))
  · exact .inl (.inr ⟨o, e _ _ h⟩)
  · exact .inr h
theorem sz5 {n : Nat} (h : n ≤ 100000) : n ≤ sizeLine := Nat.le_trans h (by decide)
theorem sz5l {n : Nat} (h : n ≤ 100000) : n < sizeLine := Nat.lt_of_le_of_lt h (by decide)
theorem szS {l : List Nat} (h : l.length ≤ 100000) : (St_ l).length ≤ sizeLine := by rw [len_S]; exact sz5 h
theorem take_split {α : Type} {l : List α} {i : Nat} {c : α} (h : l[i]? = some c) : l = l.take i ++ c :: l.drop (i + 1) ∧ l.take (i + 1) = l.take i ++ [c] ∧ (l.take i).length = i := by
  obtain ⟨hi, e⟩ := List.getElem?_eq_some_iff.mp h
  refine ⟨?_, ?_, ?_⟩
  · rw [← e, ← List.drop_eq_getElem_cons hi, List.take_append_drop]
  · rw [List.take_add_one, h]; rfl
  · rw [List.length_take]; omega
section
variable {K : PySem.W.Frag} {g : TG} {tb : TS} {D : Ends} {σ : St} {H : Hp}
abbrev LoopOk (J : It) (g : TG) (tb : TS) (D : Ends) (σ : St) (H : Hp) : Prop :=
  ∃ W : Nat → Nat → St → Hp → Prop, (∃ m, W 0 m σ H) ∧ ∀ i m σ H, W i m σ H →
      (J.stop i H ∧ D.nx σ H) ∨ (J.go i H ∧ ∃ N : St → Hp → Prop, (∀ σ' H', N σ' H' → ∃ m', m' < m ∧ W (i + 1) m' σ' H') ∧ ∀ x H', J.yld i H x H' → g x σ H' fun σ2 H2 => tb { D with nx := N, ct := N, bk := D.nx } σ2 H2)
/-- for c in text -/
theorem for_txt {l : List Nat} (Pv : List Nat → St → Hp → Prop) (h0 : Pv [] σ H)
    (hs : ∀ p c r σ H, l = p ++ c :: r → Pv p σ H → g (ch c) σ H fun σ2 H2 => tb { D with nx := Pv (p ++ [c]), ct := Pv (p ++ [c]), bk := D.nx } σ2 H2) (hd : ∀ σ H, Pv l σ H → D.nx σ H) : LoopOk (Its (St_ l)) g tb D σ H := by
  refine for_it (walk_str (z := St_ l)) (fun i σ H => Pv (l.take i) σ H) h0 (fun _ _ _ _ _ => trivial) (fun i x σ H H' hi p y => ?_) (fun σ H p => hd σ H ?_)
  · obtain ⟨rfl, c, hc, rfl⟩ := y
    have hc' : l[i]? = some c := by simpa using hc
    obtain ⟨e1, e2, e3⟩ := take_split hc'
    rw [e2]
    exact hs _ c _ σ _ e1 p
  · have e : l.take (St_ l).cps.size = l := List.take_of_length_le (by simp)
    rw [e] at p
    exact p
theorem g2 {i j : Nat} {T : Addr} {x y : V} {Q : St → Hp → Prop} (h : H T = some (.tup [x, y])) (q : Q ((σ.set i (some x)).set j (some y)) H) : gTup K 2 (gCons (gName i) (gCons (gName j) gNil)) (.ref T) σ H Q :=
  ⟨T, [x, y], rfl, SqT.of h, rfl, x, [y], rfl, y, [], rfl, rfl, q⟩
/-- for i, c in enumerate(text) -/
theorem for_enS {l : List Nat} {i j : Nat} (Pv : List Nat → St → Hp → Prop) (h0 : Pv [] σ H)
    (hs : ∀ p c r σ H H', l = p ++ c :: r → Pv p σ H → Same H H' → tb { D with nx := Pv (p ++ [c]), ct := Pv (p ++ [c]), bk := D.nx } ((σ.set i (some (.int (p.length : Nat)))).set j (some (ch c))) H') (hd : ∀ σ H, Pv l σ H → D.nx σ H) :
    LoopOk (ItP (St_ l).cps.size (pvEnS (St_ l))) (gTup K 2 (gCons (gName i) (gCons (gName j) gNil))) tb D σ H := by
  refine for_it walk_pairs (fun i σ H => Pv (l.take i) σ H) h0 (fun _ _ _ _ _ => trivial) (fun i x σ H H' hi p y => ?_) (fun σ H p => hd σ H ?_)
  · obtain ⟨T, x, y, rfl, nT, rfl, rfl, c, hc, rfl⟩ := y
    have hc' : l[i]? = some c := by simpa using hc
    obtain ⟨e1, e2, e3⟩ := take_split hc'
    refine g2 upd_same ?_
    rw [e2]
    have z := hs _ c _ σ H (upd H T (.tup [.int (i : Nat), ch c])) e1 p (Same.new nT)
    rw [e3] at z
    exact z
  · have e : l.take (St_ l).cps.size = l := List.take_of_length_le (by simp)
    rw [e] at p
    exact p
/-- for x in a list that stands still; the list is f of xs -/
theorem for_lstM {α : Type} {f : α → V} {xs : List α} {a : Addr} (Pv : List α → St → Hp → Prop) (h0 : Pv [] σ H) (hl : ∀ p σ H, Pv p σ H → SqL K H a (xs.map f))
    (hs : ∀ p c r σ H, xs = p ++ c :: r → Pv p σ H → g (f c) σ H fun σ2 H2 => tb { D with nx := Pv (p ++ [c]), ct := Pv (p ++ [c]), bk := D.nx } σ2 H2) (hd : ∀ σ H, Pv xs σ H → D.nx σ H) : LoopOk (Itl K a) g tb D σ H := by
  refine for_it (walk_list (K := K) (a := a) (xs := xs.map f)) (fun i σ H => Pv (xs.take i) σ H) h0 (fun _ _ _ _ p => hl _ _ _ p) (fun i x σ H H' hi p y => ?_) (fun σ H p => hd σ H ?_)
  · obtain ⟨rfl, hx⟩ := y
    rw [List.getElem?_map] at hx
    cases hc : xs[i]? with
    | none => rw [hc] at hx; cases hx
    | some c =>
      rw [hc] at hx
      have hx : f c = x := Option.some.inj hx
      subst hx
      obtain ⟨e1, e2, e3⟩ := take_split hc
      rw [e2]
      exact hs _ c _ σ _ e1 p
  · have e : xs.take (xs.map f).length = xs := List.take_of_length_le (by simp)
    rw [e] at p
    exact p
/-- for i, x in enumerate(a list that stands still) -/
theorem for_enL {α : Type} {f : α → V} {xs : List α} {a : Addr} {i j : Nat} (Pv : List α → St → Hp → Prop) (h0 : Pv [] σ H) (hl : ∀ p σ H, Pv p σ H → SqL K H a (xs.map f))
    (hs : ∀ p c r σ H H', xs = p ++ c :: r → Pv p σ H → Same H H' → tb { D with nx := Pv (p ++ [c]), ct := Pv (p ++ [c]), bk := D.nx } ((σ.set i (some (.int (p.length : Nat)))).set j (some (f c))) H') (hd : ∀ σ H, Pv xs σ H → D.nx σ H) :
    LoopOk (Ite K a) (gTup K 2 (gCons (gName i) (gCons (gName j) gNil))) tb D σ H := by
  refine for_it (walk_enum (K := K) (a := a) (xs := xs.map f)) (fun i σ H => Pv (xs.take i) σ H) h0 (fun _ _ _ _ p => hl _ _ _ p) (fun i x σ H H' hi p y => ?_) (fun σ H p => hd σ H ?_)
  · obtain ⟨T, x, y, rfl, nT, rfl, hx1, hx⟩ := y
    have hx1 : V.int (i : Nat) = x := Option.some.inj hx1
    subst hx1
    have hx : (xs.map f)[i]? = some y := hx
    rw [List.getElem?_map] at hx
    cases hc : xs[i]? with
    | none => rw [hc] at hx; cases hx
    | some c =>
      rw [hc] at hx
      have hx : f c = y := Option.some.inj hx
      subst hx
      obtain ⟨e1, e2, e3⟩ := take_split hc
      refine g2 upd_same ?_
      rw [e2]
      have z := hs _ c _ σ H (upd H T (.tup [.int (i : Nat), f c])) e1 p (Same.new nT)
      rw [e3] at z
      exact z
  · have e : xs.take (xs.map f).length = xs := List.take_of_length_le (by simp)
    rw [e] at p
    exact p
end
/-! ### comprehensions -/
abbrev CompOk (J : It) (g : TG) (tt : TT) (te : TE) (vs : List Nat) (σ : St) (H1 : Hp) (D : Addr) (Qd : Hp → Prop) : Prop :=
    ∃ W : Nat → Nat → Hp → Prop, (∃ m, W 0 m (upd H1 D (.lst []))) ∧ ∀ i m H, W i m H →
      (J.stop i H ∧ Qd H) ∨ (J.go i H ∧ ∃ Nx : Hp → Prop, (∀ H', Nx H' → ∃ m', m' < m ∧ W (i + 1) m' H') ∧ ∀ x H', J.yld i H x H' → g x (wipe σ vs) H' fun σ2 H2 => wipe σ2 vs = wipe σ vs ∧ tt σ2 H2 fun b H3 =>
        if b = true then te σ2 H3 fun y H4 => ∃ acc, H4 D = some (.lst acc) ∧ acc.length < sizeLine ∧ Nx (upd H4 D (.lst (acc ++ [y]))) else Nx H3)
section
variable {J : It} {n : Nat} {G : Hp → Prop} {Y : Nat → Hp → V → Hp → Prop} {g : TG} {tt : TT} {te : TE} {vs : List Nat} {σ : St} {H1 : Hp} {D : Addr} {Qd : Hp → Prop}
/-- no test, the element gives f i and leaves what stands -/
theorem lc_pure (w : Walk J n G Y) (f : Nat → V) (hD : H1 D = none) (hn : n ≤ 100000) (hG : ∀ H, Same H1 H → G H) (hY : ∀ i H x H', Y i H x H' → Same H H')
    (he : ∀ i x H H', i < n → Same H1 H → Y i H x H' → Same H1 H' → ∀ (Q : VK) (R : Hp → Prop), (∀ H4, Same H' H4 → Q (f i) H4) → g x (wipe σ vs) H' fun σ2 H2 => wipe σ2 vs = wipe σ vs ∧ tt σ2 H2 fun b H3 => if b = true then te σ2 H3 Q else R H3)
    (hd : ∀ H, Same H1 H → H D = some (.lst ((List.range n).map f)) → Qd H) : CompOk J g tt te vs σ H1 D Qd := by
  refine lc_it w (fun i H => Same H1 H ∧ H D = some (.lst ((List.range i).map f))) ⟨Same.new hD, upd_same⟩ (fun i H _ p => hG H p.1) (fun i x H H' hi p y => ?_) (fun H p => hd H p.1 p.2)
  have s1 := hY i H x H' y
  refine he i x H H' hi p.1 y (p.1.trans s1) _ _ fun H4 s2 => ?_
  have e4 := s2 _ _ (s1 _ _ p.2)
  refine ⟨_, e4, ?_, ((p.1.trans s1).trans s2).mut hD, ?_⟩
  · rw [List.length_map, List.length_range]; exact sz5l (by omega)
  · rw [upd_same, List.range_succ, List.map_append]; rfl
end
theorem ixN_nat {n j : Nat} (h : j < n) : ixN n (j : Int) = some j := by
  unfold ixN
  rw [if_pos (by omega), if_pos (by omega), Int.toNat_natCast]
theorem map_k {α β : Type} (b : β) : ∀ l : List α, l.map (fun _ => b) = List.replicate l.length b
  | [] => rfl
  | _ :: r => by rw [List.map_cons, map_k b r]; rfl
theorem range_map {α : Type} (l : List α) (F : α → V) (d : α) : (List.range l.length).map (fun i => F (l.getD i d)) = l.map F := by
  apply List.ext_getElem
  · simp
  · intro i h1 h2
    simp at h1
    simp [List.getD, h1]
section
variable {K : PySem.W.Frag} {tt : TT} {te : TE} {vs : List Nat} {σ : St} {H1 : Hp} {D : Addr} {Qd : Hp → Prop}
/-- [F c for c in text] -/
theorem lc_txt {l : List Nat} {j : Nat} (F : Nat → V) (hD : H1 D = none) (hn : l.length ≤ 100000) (hw : ∀ x, wipe ((wipe σ vs).set j (some x)) vs = wipe σ vs)
    (he : ∀ c H', c ∈ l → Same H1 H' → ∀ (Q : VK) (R : Hp → Prop), (∀ H4, Same H' H4 → Q (F c) H4) → tt ((wipe σ vs).set j (some (ch c))) H' fun b H3 => if b = true then te ((wipe σ vs).set j (some (ch c))) H3 Q else R H3)
    (hd : ∀ H, Same H1 H → H D = some (.lst (l.map F)) → Qd H) : CompOk (Its (St_ l)) (gName j) tt te vs σ H1 D Qd := by
  have hsz : (St_ l).cps.size = l.length := by simp
  refine lc_pure (walk_str (z := St_ l)) (fun i => F (l.getD i 0)) hD (by rw [hsz]; exact hn) (fun _ _ => trivial) (fun i H x H' y => by rw [y.1]; exact Same.refl _) (fun i x H H' hi s y s' Q R q => ?_) (fun H s e => hd H s ?_)
  · obtain ⟨rfl, c, hc, rfl⟩ := y
    have hc' : l[i]? = some c := by simpa using hc
    have e : l.getD i 0 = c := by rw [List.getD, hc']; rfl
    refine ⟨hw _, he c _ (List.mem_of_getElem? hc') s' Q R fun H4 s4 => ?_⟩
    have := q H4 s4
    rw [e] at this
    exact this
  · rw [hsz, range_map] at e
    exact e
/-- [F x for x in a list that stands still] -/
theorem lc_lstM {α : Type} [Inhabited α] {f : α → V} {xs : List α} {a : Addr} {j : Nat} (F : α → V) (hD : H1 D = none) (hn : xs.length ≤ 100000) (hl : SqL K H1 a (xs.map f)) (hw : ∀ x, wipe ((wipe σ vs).set j (some x)) vs = wipe σ vs)
    (he : ∀ c H', c ∈ xs → Same H1 H' → ∀ (Q : VK) (R : Hp → Prop), (∀ H4, Same H' H4 → Q (F c) H4) → tt ((wipe σ vs).set j (some (f c))) H' fun b H3 => if b = true then te ((wipe σ vs).set j (some (f c))) H3 Q else R H3)
    (hd : ∀ H, Same H1 H → H D = some (.lst (xs.map F)) → Qd H) : CompOk (Itl K a) (gName j) tt te vs σ H1 D Qd := by
  have hsz : (xs.map f).length = xs.length := by simp
  refine lc_pure (walk_list (K := K) (a := a) (xs := xs.map f)) (fun i => F (xs.getD i default)) hD (by rw [hsz]; exact hn) (fun H s => s.seq hl) (fun i H x H' y => by rw [y.1]; exact Same.refl _) (fun i x H H' hi s y s' Q R q => ?_) (fun H s e => hd H s ?_)
  · obtain ⟨rfl, hx⟩ := y
    rw [List.getElem?_map] at hx
    cases hc : xs[i]? with
    | none => rw [hc] at hx; cases hx
    | some c =>
      rw [hc] at hx
      have hx : f c = x := Option.some.inj hx
      subst hx
      have e : xs.getD i default = c := by rw [List.getD, hc]; rfl
      refine ⟨hw _, he c _ (List.mem_of_getElem? hc) s' Q R fun H4 s4 => ?_⟩
      have := q H4 s4
      rw [e] at this
      exact this
  · rw [hsz, range_map] at e
    exact e
end
section
variable {K : PySem.W.Frag} {te : TE} {vs : List Nat} {σ : St} {H1 : Hp} {D : Addr} {Qd : Hp → Prop}
theorem lc_txtY {l : List Nat} {j : Nat} (F : Nat → V) (hD : H1 D = none) (hn : l.length ≤ 100000) (hw : ∀ x, wipe ((wipe σ vs).set j (some x)) vs = wipe σ vs)
    (he : ∀ c H', c ∈ l → Same H1 H' → ∀ Q : VK, (∀ H4, Same H' H4 → Q (F c) H4) → te ((wipe σ vs).set j (some (ch c))) H' Q)
    (hd : ∀ H, Same H1 H → H D = some (.lst (l.map F)) → Qd H) : CompOk (Its (St_ l)) (gName j) tYes te vs σ H1 D Qd :=
  lc_txt F hD hn hw (fun c H' hc s Q R q => by
    show (if true = true then te ((wipe σ vs).set j (some (ch c))) H' Q else R H')
    rw [if_pos rfl]
    exact he c H' hc s Q q) hd
theorem lc_lstY {α : Type} [Inhabited α] {f : α → V} {xs : List α} {a : Addr} {j : Nat} (F : α → V) (hD : H1 D = none) (hn : xs.length ≤ 100000) (hl : SqL K H1 a (xs.map f)) (hw : ∀ x, wipe ((wipe σ vs).set j (some x)) vs = wipe σ vs)
    (he : ∀ c H', c ∈ xs → Same H1 H' → ∀ Q : VK, (∀ H4, Same H' H4 → Q (F c) H4) → te ((wipe σ vs).set j (some (f c))) H' Q)
    (hd : ∀ H, Same H1 H → H D = some (.lst (xs.map F)) → Qd H) : CompOk (Itl K a) (gName j) tYes te vs σ H1 D Qd :=
  lc_lstM F hD hn hl hw (fun c H' hc s Q R q => by
    show (if true = true then te ((wipe σ vs).set j (some (f c))) H' Q else R H')
    rw [if_pos rfl]
    exact he c H' hc s Q q) hd
end
/-! ### joining ways -/
section
variable {te ta tb : TE} {t : TT} {i : Nat} {rest : TS} {D : Ends} {σ : St} {H : Hp} {v v1 v2 : V}
theorem sq_set (v : V) (h : ∀ Q : VK, Q v H → te σ H Q) (k : rest D (σ.set i (some v)) H) : tSeq (tAsg te (gName i)) rest D σ H := h _ k
theorem s_set (v : V) (h : ∀ Q : VK, Q v H → te σ H Q) (k : D.nx (σ.set i (some v)) H) : tAsg te (gName i) D σ H := h _ k
theorem val_if {c : Bool} (hc : ∀ Q : Bool → Hp → Prop, Q c H → t σ H Q) (h1 : c = true → ∀ Q : VK, Q v1 H → ta σ H Q) (h2 : c = false → ∀ Q : VK, Q v2 H → tb σ H Q) : ∀ Q : VK, Q (if c then v1 else v2) H → tIf t ta tb σ H Q := fun Q q => hc _ (by
  cases c with
  | true => exact h1 rfl Q q
  | false => exact h2 rfl Q q)
end
theorem join_rd {K : PySem.W.Frag} {p : Addr} {t : List Nat} {H : Hp} {Q : VK} (h : SqL K H p (t.map ch)) (hn : t.length ≤ 100000) (q : Q (S t) H) :
    ∃ a p', ∃ ys : List Str, V.str (Str.ofString "") = .str a ∧ [V.ref p] = [.ref p'] ∧ (SqL K H p' (ys.map V.str) ∨ SqT K H p' (ys.map V.str)) ∧ (ys.map (·.length)).sum + ys.length * a.length ≤ 16777216 ∧ Q (.str (Txt.join a ys)) H := by
  refine ⟨_, p, (t.map fun c => [c]).map St_, rfl, rfl, .inl (by rw [map_ch]; exact h), ?_, ?_⟩
  · rw [lit_e, sum_ch]; omega
  · rw [lit_e, join_ch]; exact q
theorem cutV_to (xs : List V) (k : Nat) : cutV xs none (some (k : Int)) = xs.take k := by
  unfold cutV
  rw [HT.sIx_nat, HT.sIx_none, List.drop_zero, Nat.sub_zero]
  by_cases h : k ≤ xs.length
  · rw [Nat.min_eq_left h]
  · rw [Nat.min_eq_right (by omega), List.take_length, List.take_of_length_le (by omega)]
theorem cutV_from (xs : List V) (k : Nat) : cutV xs (some (k : Int)) none = xs.drop k := by
  unfold cutV
  rw [HT.sIx_nat, HT.sIx_none]
  by_cases h : k ≤ xs.length
  · rw [Nat.min_eq_left h, List.take_of_length_le (by rw [List.length_drop]; omega)]
  · rw [Nat.min_eq_right (by omega), List.drop_length, List.drop_of_length_le (by omega), List.take_nil]
/-! ### tests of signs -/
theorem d_ch (a b : Nat) : decide (ch a = ch b) = decide (a = b) := by
  rw [decide_eq_decide, ch_inj]
theorem d_op (c : Nat) : decide (ch c = V.str (Str.ofString "(")) = decide (c = 40) := by rw [lit_op]; exact d_ch c 40
theorem d_cl (c : Nat) : decide (ch c = V.str (Str.ofString ")")) = decide (c = 41) := by rw [lit_cl]; exact d_ch c 41
theorem d_q (c : Nat) : decide (ch c = V.str (Str.ofString "?")) = decide (c = 63) := by rw [lit_q]; exact d_ch c 63
theorem d_int (a b : Int) : decide (V.int a = V.int b) = decide (a = b) := by
  rw [decide_eq_decide]
  exact ⟨V.int.inj, fun h => by rw [h]⟩
theorem d_S (a b : List Nat) : decide (S a = S b) = decide (a = b) := by rw [decide_eq_decide, S_inj]
end L2

set_option linter.all false
/-! The mathematics of rows: codes 40 ( 41 ) 63 ?. -/
namespace BR
def dst (d : Int) (c : Nat) : Int := if c = 40 then d + 1 else d - 1
def fin (d : Int) (l : List Nat) : Int := l.foldl dst d
def dpi (d : Int) : List Nat → List Int
  | [] => []
  | c :: r => d :: dpi (dst d c) r
/-- how many are open at each place, and at the end -/
def dps (d : Int) (l : List Nat) : List Int := dpi d l ++ [fin d l]
theorem fin_nil (d : Int) : fin d [] = d := rfl
theorem fin_cons (d : Int) (c : Nat) (r : List Nat) : fin d (c :: r) = fin (dst d c) r := rfl
theorem fin_app (d : Int) (a b : List Nat) : fin d (a ++ b) = fin (fin d a) b := by
  unfold fin; rw [List.foldl_append]
theorem fin_snoc (d : Int) (a : List Nat) (c : Nat) : fin d (a ++ [c]) = dst (fin d a) c := by rw [fin_app]; rfl
theorem dpi_app : ∀ (d : Int) (a b : List Nat), dpi d (a ++ b) = dpi d a ++ dpi (fin d a) b
  | _, [], _ => rfl
  | d, c :: r, b => by
    show d :: dpi (dst d c) (r ++ b) = d :: (dpi (dst d c) r ++ dpi (fin d (c :: r)) b)
    rw [dpi_app]; rfl
theorem dpi_snoc (d : Int) (a : List Nat) (c : Nat) : dpi d (a ++ [c]) = dps d a := by rw [dpi_app]; rfl
theorem dps_snoc (d : Int) (a : List Nat) (c : Nat) : dps d (a ++ [c]) = dps d a ++ [dst (fin d a) c] := by
  unfold dps
  rw [dpi_snoc, fin_snoc]; rfl
theorem dpi_len : ∀ (d : Int) (l : List Nat), (dpi d l).length = l.length
  | _, [] => rfl
  | d, c :: r => by show (dpi (dst d c) r).length + 1 = r.length + 1; rw [dpi_len]
theorem dps_len (d : Int) (l : List Nat) : (dps d l).length = l.length + 1 := by unfold dps; rw [List.length_append, dpi_len]; rfl
/-- the depth behind the first i signs -/
theorem dps_get (d : Int) (l : List Nat) (i : Nat) (h : i ≤ l.length) : (dps d l)[i]? = some (fin d (l.take i)) := by
  by_cases hi : i < l.length
  · have e : l = l.take i ++ l[i] :: l.drop (i + 1) := by rw [← List.drop_eq_getElem_cons hi, List.take_append_drop]
    have h2 : dps d l = dpi d (l.take i) ++ (fin d (l.take i) :: (dpi (dst (fin d (l.take i)) l[i]) (l.drop (i + 1)) ++ [fin d l])) := by
      conv => lhs; unfold dps; rw [e, dpi_app]
      show (_ ++ (_ :: _)) ++ _ = _
      rw [List.append_assoc, ← e]; rfl
    have h3 : (dpi d (l.take i)).length = i := by rw [dpi_len, List.length_take]; omega
    rw [h2, List.getElem?_append_right (by omega), h3, Nat.sub_self]; rfl
  · have e : i = l.length := by omega
    subst e
    unfold dps
    rw [List.getElem?_append_right (by rw [dpi_len]; exact Nat.le_refl _), dpi_len, Nat.sub_self, List.take_length]; rfl
/-- the run of a row: how many are open at the end, none where too many close or a sign is no bracket -/
def run : Nat → List Nat → Option Nat
  | d, [] => some d
  | d, c :: r => if c = 40 then run (d + 1) r else if c = 41 then (match d with | 0 => none | k + 1 => run k r) else none
theorem run_op (d : Nat) (r : List Nat) : run d (40 :: r) = run (d + 1) r := rfl
theorem run_cl0 (r : List Nat) : run 0 (41 :: r) = none := rfl
theorem run_cl (k : Nat) (r : List Nat) : run (k + 1) (41 :: r) = run k r := rfl
theorem run_no {c : Nat} (h1 : c ≠ 40) (h2 : c ≠ 41) (d : Nat) (r : List Nat) : run d (c :: r) = none := by
  show (if c = 40 then _ else if c = 41 then _ else none) = none
  rw [if_neg h1, if_neg h2]
theorem run_app : ∀ (a : List Nat) (d : Nat) (b : List Nat), run d (a ++ b) = (run d a).bind fun e => run e b
  | [], _, _ => rfl
  | c :: r, d, b => by
    by_cases h : c = 40
    · subst h
      rw [List.cons_append, run_op, run_op, run_app]
    · by_cases h2 : c = 41
      · subst h2
        cases d with
        | zero => rfl
        | succ k =>
          rw [List.cons_append, run_cl, run_cl, run_app]
      · rw [List.cons_append, run_no h h2, run_no h h2]; rfl
theorem run_add : ∀ (l : List Nat) (d e k : Nat), run d l = some e → run (d + k) l = some (e + k)
  | [], d, e, k, h => by
    have : d = e := Option.some.inj h
    rw [this]; rfl
  | c :: r, d, e, k, h => by
    unfold run at h ⊢
    by_cases h1 : c = 40
    · rw [if_pos h1] at h ⊢
      have := run_add r (d + 1) e k h
      rw [show d + k + 1 = d + 1 + k by omega]
      exact this
    · rw [if_neg h1] at h ⊢
      by_cases h2 : c = 41
      · rw [if_pos h2] at h ⊢
        cases d with
        | zero => cases h
        | succ j =>
          have := run_add r j e k h
          rw [show j + 1 + k = (j + k) + 1 by omega]
          exact this
      · rw [if_neg h2] at h; cases h
/-- signs that are brackets -/
def Br (l : List Nat) : Prop := ∀ c ∈ l, c = 40 ∨ c = 41
/-- a row: brackets and rubbed signs -/
def IsRow (l : List Nat) : Prop := ∀ c ∈ l, c = 40 ∨ c = 41 ∨ c = 63
def isClosed (l : List Nat) : Bool := decide (63 ∉ l) && ((dps 0 l).all (fun d => decide (0 ≤ d)) && decide (fin 0 l = 0))
theorem Br.row {l : List Nat} (h : Br l) : IsRow l := fun c hc => (h c hc).elim .inl fun e => .inr (.inl e)
theorem run_br : ∀ (l : List Nat) (d e : Nat), run d l = some e → Br l
  | [], _, _, _, c, hc => by cases hc
  | x :: r, d, e, h, c, hc => by
    unfold run at h
    by_cases h1 : x = 40
    · rw [if_pos h1] at h
      rcases List.mem_cons.mp hc with q | q
      · exact .inl (q.trans h1)
      · exact run_br r _ _ h c q
    · rw [if_neg h1] at h
      by_cases h2 : x = 41
      · rw [if_pos h2] at h
        rcases List.mem_cons.mp hc with q | q
        · exact .inr (q.trans h2)
        · cases d with
          | zero => cases h
          | succ j => exact run_br r _ _ h c q
      · rw [if_neg h2] at h; cases h
theorem run_fin : ∀ (l : List Nat) (d e : Nat), run d l = some e → fin d l = e
  | [], d, e, h => by
    have : d = e := Option.some.inj h
    rw [this]; rfl
  | c :: r, d, e, h => by
    unfold run at h
    rw [fin_cons]
    by_cases h1 : c = 40
    · rw [if_pos h1] at h
      have := run_fin r _ _ h
      unfold dst
      rw [if_pos h1]
      exact this
    · rw [if_neg h1] at h
      by_cases h2 : c = 41
      · rw [if_pos h2] at h
        cases d with
        | zero => cases h
        | succ j =>
          have := run_fin r _ _ h
          unfold dst
          rw [if_neg h1]
          have e : ((j + 1 : Nat) : Int) - 1 = j := by omega
          rw [e]; exact this
      · rw [if_neg h2] at h; cases h
/-- a run that goes through: brackets, no depth below nought -/
theorem run_iff (l : List Nat) : ∀ (d : Nat), Br l → ((∀ x ∈ dps d l, 0 ≤ x) ↔ ∃ e, run d l = some e) := by
  induction l with
  | nil =>
    intro d _
    constructor
    · intro _; exact ⟨d, rfl⟩
    · intro _ x hx
      have : x = (d : Int) := by simpa [dps, dpi, fin] using hx
      omega
  | cons c r ih =>
    intro d hb
    have hb' : Br r := fun x hx => hb x (List.mem_cons_of_mem _ hx)
    have hdp : dps d (c :: r) = (d : Int) :: dps (dst d c) r := rfl
    rw [hdp]
    rcases hb c (List.mem_cons_self ..) with h | h
    · subst h
      have e1 : dst (d : Int) 40 = ((d + 1 : Nat) : Int) := by unfold dst; rw [if_pos rfl]; omega
      have e2 : run d (40 :: r) = run (d + 1) r := rfl
      rw [e1, e2, ← ih (d + 1) hb']
      constructor
      · intro h x hx; exact h x (List.mem_cons_of_mem _ hx)
      · intro h x hx
        rcases List.mem_cons.mp hx with q | q
        · omega
        · exact h x q
    · subst h
      cases d with
      | zero =>
        have e2 : run 0 (41 :: r) = none := rfl
        rw [e2]
        constructor
        · intro h
          have hm : dst ((0 : Nat) : Int) 41 ∈ dps (dst ((0 : Nat) : Int) 41) r := by
            cases r with
            | nil => simp [dps, dpi, fin]
            | cons y s => simp [dps, dpi]
          have := h _ (List.mem_cons_of_mem _ hm)
          have e : dst ((0 : Nat) : Int) 41 = -1 := by decide
          rw [e] at this
          omega
        · rintro ⟨e, h⟩; cases h
      | succ j =>
        have e1 : dst ((j + 1 : Nat) : Int) 41 = (j : Int) := by unfold dst; rw [if_neg (by decide)]; omega
        have e2 : run (j + 1) (41 :: r) = run j r := rfl
        rw [e1, e2, ← ih j hb']
        constructor
        · intro h x hx; exact h x (List.mem_cons_of_mem _ hx)
        · intro h x hx
          rcases List.mem_cons.mp hx with q | q
          · omega
          · exact h x q
theorem isClosed_iff (l : List Nat) (hr : IsRow l) : isClosed l = true ↔ run 0 l = some 0 := by
  unfold isClosed
  rw [Bool.and_eq_true, Bool.and_eq_true, decide_eq_true_eq, decide_eq_true_eq, List.all_eq_true]
  constructor
  · rintro ⟨h1, h2, h3⟩
    have hb : Br l := fun c hc => by
      rcases hr c hc with q | q | q
      · exact .inl q
      · exact .inr q
      · subst q; exact absurd hc h1
    obtain ⟨e, he⟩ := (run_iff l 0 hb).mp fun x hx => of_decide_eq_true (h2 x hx)
    have := run_fin l 0 e he
    have e0 : (e : Int) = 0 := this.symm.trans h3
    have : e = 0 := by omega
    rw [he, this]
  · intro h
    have hb := run_br l 0 0 h
    refine ⟨fun hm => ?_, fun x hx => decide_eq_true ((run_iff l 0 hb).mpr ⟨0, h⟩ x hx), run_fin l 0 0 h⟩
    rcases hb 63 hm with q | q <;> cases q
end BR

set_option linter.all false
namespace BR
/-- the depth ahead of place t -/
def Dp (l : List Nat) (t : Nat) : Int := fin 0 (l.take t)
theorem Dp_succ {l : List Nat} {i c : Nat} (h : l[i]? = some c) : Dp l (i + 1) = dst (Dp l i) c := by
  unfold Dp
  rw [List.take_add_one, h]
  show fin 0 (l.take i ++ [c]) = _
  rw [fin_snoc]
theorem run_take : ∀ (l : List Nat) (d e i : Nat), run d l = some e → ∃ m, run d (l.take i) = some m
  | l, d, e, i, h => by
    have h2 : run d (l.take i ++ l.drop i) = some e := by rw [List.take_append_drop]; exact h
    rw [run_app] at h2
    cases q : run d (l.take i) with
    | none => rw [q] at h2; cases h2
    | some m => exact ⟨m, rfl⟩
theorem Dp_nonneg {l : List Nat} (h : run 0 l = some 0) (t : Nat) : 0 ≤ Dp l t := by
  obtain ⟨m, hm⟩ := run_take l 0 0 t h
  have := run_fin _ _ _ hm
  unfold Dp
  rw [show (0 : Int) = ((0 : Nat) : Int) from rfl, this]
  omega
theorem Dp_end {l : List Nat} (h : run 0 l = some 0) : Dp l l.length = 0 := by
  unfold Dp
  rw [List.take_length]
  exact run_fin l 0 0 h
/-- a opens, b is its partner -/
def Pr (l : List Nat) (a b : Nat) : Prop := a < b ∧ Dp l (b + 1) = Dp l a ∧ ∀ t, a < t → t ≤ b → Dp l a < Dp l t
structure PI (l : List Nat) (i : Nat) (s : List Nat) (f : List Int) : Prop where
  len : f.length = l.length
  sl : (s.length : Int) = Dp l i
  st : ∀ (k x : Nat), s[k]? = some x → x < i ∧ Dp l x = k ∧ ∀ t, x < t → t ≤ i → (k : Int) < Dp l t
  mt : ∀ t, t < i → t ∉ s → ∃ u : Nat, u < i ∧ u ∉ s ∧ f[t]? = some (u : Int) ∧ f[u]? = some (t : Int) ∧ (Pr l t u ∨ Pr l u t)
theorem PI.start (l : List Nat) (f : List Int) (h : f.length = l.length) : PI l 0 [] f :=
  ⟨h, rfl, fun k x e => by simp at e, fun t ht => absurd ht (Nat.not_lt_zero _)⟩
theorem PI.openS {l : List Nat} {i : Nat} {s : List Nat} {f : List Int} (p : PI l i s f) (h : l[i]? = some 40) : PI l (i + 1) (s ++ [i]) f := by
  have e : Dp l (i + 1) = Dp l i + 1 := Dp_succ h
  refine ⟨p.len, ?_, fun k x hx => ?_, fun t ht hn => ?_⟩
  · rw [List.length_append, e, ← p.sl]; simp
  · by_cases hk : k < s.length
    · rw [List.getElem?_append_left hk] at hx
      obtain ⟨a, b, c⟩ := p.st k x hx
      refine ⟨by omega, b, fun t h1 h2 => ?_⟩
      by_cases q : t ≤ i
      · exact c t h1 q
      · have : t = i + 1 := by omega
        subst this
        have := p.sl
        omega
    · rw [List.getElem?_append_right (by omega)] at hx
      have hk2 : k - s.length = 0 := by
        cases q : k - s.length with
        | zero => rfl
        | succ n => rw [q] at hx; simp at hx
      rw [hk2] at hx
      have ex : i = x := Option.some.inj hx
      subst ex
      have := p.sl
      refine ⟨by omega, by omega, fun t h1 h2 => ?_⟩
      have : t = i + 1 := by omega
      subst this
      omega
  · have h1 : t ∉ s := fun q => hn (List.mem_append_left _ q)
    have h2 : t ≠ i := fun q => hn (List.mem_append_right _ (by simp [q]))
    obtain ⟨u, a, b, c, d, e'⟩ := p.mt t (by omega) h1
    refine ⟨u, by omega, fun q => ?_, c, d, e'⟩
    rcases List.mem_append.mp q with q | q
    · exact b q
    · have : u = i := by simpa using q
      omega
theorem PI.top {l : List Nat} {i c : Nat} {s : List Nat} {f : List Int} (p : PI l i s f) (hi : l[i]? = some c) (hc : c ≠ 40) (hr : run 0 l = some 0) :
    ∃ s' o, s = s' ++ [o] ∧ o < l.length ∧ o ≠ i := by
  have e : Dp l (i + 1) = Dp l i - 1 := by rw [Dp_succ hi]; unfold dst; rw [if_neg hc]
  have h0 := Dp_nonneg hr (i + 1)
  have hs := p.sl
  have hne : s ≠ [] := fun q => by rw [q] at hs; simp at hs; omega
  refine ⟨s.dropLast, s.getLast hne, (List.dropLast_concat_getLast hne).symm, ?_⟩
  have hl : s[s.length - 1]? = some (s.getLast hne) := by rw [← List.getLast?_eq_getElem?, List.getLast?_eq_getLast hne]
  obtain ⟨a, _, _⟩ := p.st _ _ hl
  have := (List.getElem?_eq_some_iff.mp hi).1
  exact ⟨by omega, by omega⟩
theorem PI.closeS {l : List Nat} {i c : Nat} {s : List Nat} {o : Nat} {f : List Int} (p : PI l i (s ++ [o]) f) (hi : l[i]? = some c) (hc : c ≠ 40) : PI l (i + 1) s ((f.set i (o : Int)).set o (i : Int)) := by
  have e : Dp l (i + 1) = Dp l i - 1 := by rw [Dp_succ hi]; unfold dst; rw [if_neg hc]
  have hil := (List.getElem?_eq_some_iff.mp hi).1
  have hs := p.sl
  rw [List.length_append] at hs
  have hs2 : (s.length : Int) + 1 = Dp l i := by simpa using hs
  obtain ⟨a, b, hab⟩ := p.st s.length o (by rw [List.getElem?_append_right (Nat.le_refl _), Nat.sub_self]; rfl)
  have hpr : Pr l o i := ⟨a, by omega, fun t h1 h2 => by have := hab t h1 h2; omega⟩
  have hst : ∀ (k x : Nat), s[k]? = some x → x < i ∧ Dp l x = k ∧ ∀ t, x < t → t ≤ i → (k : Int) < Dp l t := fun k x hx => p.st k x (by
    rw [List.getElem?_append_left (List.getElem?_eq_some_iff.mp hx).1]; exact hx)
  have os : o ∉ s := fun q => by
    obtain ⟨k, hk⟩ := List.mem_iff_getElem?.mp q
    have := (hst k o hk).2.1
    have := (List.getElem?_eq_some_iff.mp hk).1
    omega
  have is_ : i ∉ s := fun q => by
    obtain ⟨k, hk⟩ := List.mem_iff_getElem?.mp q
    have := (hst k i hk).1
    omega
  have hlen := p.len
  refine ⟨by simpa using p.len, by omega, fun k x hx => ?_, fun t ht hn => ?_⟩
  · obtain ⟨a1, b1, c1⟩ := hst k x hx
    have hk := (List.getElem?_eq_some_iff.mp hx).1
    refine ⟨by omega, b1, fun t h1 h2 => ?_⟩
    by_cases q : t ≤ i
    · exact c1 t h1 q
    · have : t = i + 1 := by omega
      subst this
      omega
  · by_cases h1 : t = i
    · subst h1
      refine ⟨o, by omega, os, ?_, ?_, .inr hpr⟩
      · rw [List.getElem?_set_ne (by omega), List.getElem?_set_self (by omega)]
      · rw [List.getElem?_set_self (by simp; omega)]
    · by_cases h2 : t = o
      · subst h2
        refine ⟨i, by omega, is_, ?_, ?_, .inl hpr⟩
        · rw [List.getElem?_set_self (by simp; omega)]
        · rw [List.getElem?_set_ne (by omega), List.getElem?_set_self (by omega)]
      · have h3 : t ∉ s ++ [o] := fun q => by
          rcases List.mem_append.mp q with q | q
          · exact hn q
          · exact h2 (by simpa using q)
        obtain ⟨u, u1, u2, u3, u4, u5⟩ := p.mt t (by omega) h3
        have u6 : u ≠ o := fun q => u2 (List.mem_append_right _ (by simp [q]))
        refine ⟨u, by omega, fun q => u2 (List.mem_append_left _ q), ?_, ?_, u5⟩
        · rw [List.getElem?_set_ne (by omega), List.getElem?_set_ne (by omega)]; exact u3
        · rw [List.getElem?_set_ne (by omega), List.getElem?_set_ne (by omega)]; exact u4
/-- the partners of a closed row -/
def PM (l : List Nat) (f : List Int) : Prop := f.length = l.length ∧ ∀ t, t < l.length → ∃ u : Nat, u < l.length ∧ f[t]? = some (u : Int) ∧ f[u]? = some (t : Int) ∧ (l[t]? = some 40 → Pr l t u)
theorem PI.done {l : List Nat} {s : List Nat} {f : List Int} (p : PI l l.length s f) (hr : run 0 l = some 0) : PM l f := by
  refine ⟨p.len, fun t ht => ?_⟩
  have hs := p.sl
  rw [Dp_end hr] at hs
  have hs : s = [] := List.length_eq_zero_iff.mp (by omega)
  subst hs
  obtain ⟨u, u1, _, u3, u4, u5⟩ := p.mt t ht (by simp)
  refine ⟨u, u1, u3, u4, fun h => ?_⟩
  rcases u5 with q | q
  · exact q
  · have e : Dp l (t + 1) = Dp l t + 1 := Dp_succ h
    have := q.2.1
    have := q.2.2 t q.1 (Nat.le_refl _)
    omega
end BR

set_option Elab.async false
set_option linter.all false
set_option maxRecDepth 100000
set_option maxHeartbeats 4000000
namespace HT5
open PySem PySem.Spec PyProof.Rows L2 BR
def topS (i : Nat) : Stmt := PySem.Challenge.pw_halftold_k05_closed.main.body.getD i (.Pass ⟨0, 0, 0, 0⟩)
abbrev sAskedRow : Stmt := topS 8
abbrev sDepthsOf : Stmt := topS 9
abbrev sIsClosed : Stmt := topS 10
abbrev sPartners : Stmt := topS 11
abbrev sDepths : Stmt := topS 12
abbrev sLawClosedRow : Stmt := topS 14
abbrev sLawPartner : Stmt := topS 15
abbrev sLawRefused : Stmt := topS 16
abbrev sLaw : Stmt := topS 17
theorem scAskedRow : FnScope ["row"] ["row"] (defScope sAskedRow) := ⟨rfl, rfl, rfl, by decide +kernel, rfl, by decide +kernel, by decide +kernel⟩
theorem scDepthsOf : FnScope ["text", "found", "sign"] ["text"] (defScope sDepthsOf) := ⟨rfl, rfl, rfl, by decide +kernel, rfl, by decide +kernel, by decide +kernel⟩
theorem scIsClosed : FnScope ["text", "told"] ["text"] (defScope sIsClosed) := ⟨rfl, rfl, rfl, by decide +kernel, rfl, by decide +kernel, by decide +kernel⟩
theorem scPartners : FnScope ["row", "open_at", "found", "sign", "place", "other"] ["row"] (defScope sPartners) := ⟨rfl, rfl, rfl, by decide +kernel, rfl, by decide +kernel, by decide +kernel⟩
theorem scDepths : FnScope ["row"] ["row"] (defScope sDepths) := ⟨rfl, rfl, rfl, by decide +kernel, rfl, by decide +kernel, by decide +kernel⟩
theorem scLawClosedRow : FnScope ["_law_script", "_law_many", "_law_depth", "_law_signs", "_law_at", "_law_cell", "_law_opens"] ["_law_script"] (defScope sLawClosedRow) := ⟨rfl, rfl, rfl, by decide +kernel, rfl, by decide +kernel, by decide +kernel⟩
theorem scLawPartner : FnScope ["_law_row", "_law_place", "_law_depth", "_law_at"] ["_law_row", "_law_place"] (defScope sLawPartner) := ⟨rfl, rfl, rfl, by decide +kernel, rfl, by decide +kernel, by decide +kernel⟩
theorem scLawRefused : FnScope ["_law_ask", "_law_row", "error", "_law_others"] ["_law_ask", "_law_row"] (defScope sLawRefused) := ⟨rfl, rfl, rfl, by decide +kernel, rfl, by decide +kernel, by decide +kernel⟩
theorem scLaw : FnScope ["_law_script", "_law_row", "_law_due", "_law_sign", "_law_again", "_law_found", "_law_place", "_law_one", "_law_at", "_law_turned", "_law_others", "_law_other"] ["_law_script"] (defScope sLaw) := ⟨rfl, rfl, rfl, by decide +kernel, rfl, by decide +kernel, by decide +kernel⟩
structure Txt (K : PySem.W.Frag) (mg : Str → Option Value) : Type where
  n_ValueError : mg "ValueError" = none
  n_all : mg "all" = none
  n_any : mg "any" = none
  n_bool : mg "bool" = none
  n_enumerate : mg "enumerate" = none
  n_isinstance : mg "isinstance" = none
  n_len : mg "len" = none
  n_list : mg "list" = none
  n_min : mg "min" = none
  n_range : mg "range" = none
  n_str : mg "str" = none
  n_sum : mg "sum" = none
  f_asked_row : DefIn K mg "asked_row" "asked_row" sAskedRow ["row"]
  f_depths_of : DefIn K mg "depths_of" "depths_of" sDepthsOf ["text"]
  f_is_closed : DefIn K mg "is_closed" "is_closed" sIsClosed ["text"]
  f_partners : DefIn K mg "partners" "partners" sPartners ["row"]
  f_depths : DefIn K mg "depths" "depths" sDepths ["row"]
  f__law_closed_row : DefIn K mg "_law_closed_row" "_law_closed_row" sLawClosedRow ["_law_script"]
  f__law_partner : DefIn K mg "_law_partner" "_law_partner" sLawPartner ["_law_row", "_law_place"]
  f__law_refused : DefIn K mg "_law_refused" "_law_refused" sLawRefused ["_law_ask", "_law_row"]
  c_BracketError : Addr
  g_BracketError : mg "BracketError" = some (.ref c_BracketError)
  x_BracketError : PySem.W.excIn K c_BracketError [.type "ValueError", .type "Exception", .type "BaseException", .type "object"] "ValueError.__new__" = true
  k_BracketError : PySem.W.keepIn K (.ref c_BracketError) = true
  b_BracketError : PySem.W.subIn K (.ref c_BracketError) (.type "BaseException") = some true
  t_BracketError : PySem.W.typeIn K (.ref c_BracketError) = some (.type "type")
  c_BadRow : Addr
  g_BadRow : mg "BadRow" = some (.ref c_BadRow)
  x_BadRow : PySem.W.excIn K c_BadRow [.type "ValueError", .type "Exception", .type "BaseException", .type "object"] "ValueError.__new__" = true
  k_BadRow : PySem.W.keepIn K (.ref c_BadRow) = true
  b_BadRow : PySem.W.subIn K (.ref c_BadRow) (.type "BaseException") = some true
  t_BadRow : PySem.W.typeIn K (.ref c_BadRow) = some (.type "type")
  c_NoFilling : Addr
  g_NoFilling : mg "NoFilling" = some (.ref c_NoFilling)
  x_NoFilling : PySem.W.excIn K c_NoFilling [.type "ValueError", .type "Exception", .type "BaseException", .type "object"] "ValueError.__new__" = true
  k_NoFilling : PySem.W.keepIn K (.ref c_NoFilling) = true
  b_NoFilling : PySem.W.subIn K (.ref c_NoFilling) (.type "BaseException") = some true
  t_NoFilling : PySem.W.typeIn K (.ref c_NoFilling) = some (.type "type")
  c_BadNumber : Addr
  g_BadNumber : mg "BadNumber" = some (.ref c_BadNumber)
  x_BadNumber : PySem.W.excIn K c_BadNumber [.type "ValueError", .type "Exception", .type "BaseException", .type "object"] "ValueError.__new__" = true
  k_BadNumber : PySem.W.keepIn K (.ref c_BadNumber) = true
  b_BadNumber : PySem.W.subIn K (.ref c_BadNumber) (.type "BaseException") = some true
  t_BadNumber : PySem.W.typeIn K (.ref c_BadNumber) = some (.type "type")
  c_BadText : Addr
  g_BadText : mg "BadText" = some (.ref c_BadText)
  x_BadText : PySem.W.excIn K c_BadText [.type "ValueError", .type "Exception", .type "BaseException", .type "object"] "ValueError.__new__" = true
  k_BadText : PySem.W.keepIn K (.ref c_BadText) = true
  b_BadText : PySem.W.subIn K (.ref c_BadText) (.type "BaseException") = some true
  t_BadText : PySem.W.typeIn K (.ref c_BadText) = some (.type "type")
  c_BadPrices : Addr
  g_BadPrices : mg "BadPrices" = some (.ref c_BadPrices)
  x_BadPrices : PySem.W.excIn K c_BadPrices [.type "ValueError", .type "Exception", .type "BaseException", .type "object"] "ValueError.__new__" = true
  k_BadPrices : PySem.W.keepIn K (.ref c_BadPrices) = true
  b_BadPrices : PySem.W.subIn K (.ref c_BadPrices) (.type "BaseException") = some true
  t_BadPrices : PySem.W.typeIn K (.ref c_BadPrices) = some (.type "type")
  e_NoFilling : ExcC K c_NoFilling
  i_NoFilling_BracketError : PySem.W.kitOne K (.ref c_NoFilling) (.ref c_BracketError) = some true
  i_NoFilling_BadRow : PySem.W.kitOne K (.ref c_NoFilling) (.ref c_BadRow) = some false
  i_NoFilling_NoFilling : PySem.W.kitOne K (.ref c_NoFilling) (.ref c_NoFilling) = some true
  i_NoFilling_BadNumber : PySem.W.kitOne K (.ref c_NoFilling) (.ref c_BadNumber) = some false
  i_NoFilling_BadText : PySem.W.kitOne K (.ref c_NoFilling) (.ref c_BadText) = some false
  i_NoFilling_BadPrices : PySem.W.kitOne K (.ref c_NoFilling) (.ref c_BadPrices) = some false
  i_NoFilling_ValueError : PySem.W.kitOne K (.ref c_NoFilling) (.type "ValueError") = some true
  s_NoFilling : PySem.W.exmOne K (.ref c_NoFilling) (.ref c_BracketError) = some true
local macro_rules | `(tactic| walk_at "sq") => `(tactic| first | exact SqL.of (by assumption) | exact SqL.of upd_same | exact SqT.of (by assumption) | exact SqT.of upd_same | assumption | exact Same.seq (by assumption) (by assumption) | exact Same.seq (Same.trans (by assumption) (by assumption)) (by assumption))
local macro_rules | `(tactic| walk_at "len") => `(tactic| (simp only [List.length_append, List.length_map, List.length_cons, List.length_nil, List.length_set, List.length_replicate, List.length_take, List.length_drop, List.length_reverse, List.length_range, dpi_len, dps_len, len_S]; omega))
local macro_rules | `(tactic| walk_at "g1") => `(tactic| first
  | refine ⟨_, rfl, ?_⟩
  | refine ⟨rfl, ?_⟩
  | refine ⟨_, _, rfl, rfl, @id.{0} _ (by first | decide | omega | exact ⟨by decide, by decide⟩ | exact .inr ⟨by decide, by decide⟩ | (show (0 : Int) < _; decide)), ?_⟩
  | refine ⟨_, _, rfl, rfl, ?_⟩
  | refine ⟨_, _, _, _, rfl, rfl, (by walk_at "sq"), (by first | exact atI_last _ _ | (with_reducible exact atI_nat (by assumption))), ?_⟩
  | refine ⟨.inl ⟨rfl, _, (by walk_at "sq")⟩, ?_⟩
  | refine ⟨_, _, rfl, (by first | exact .inl (by walk_at "sq") | exact .inr (by walk_at "sq")), ?_⟩
  | refine ⟨_, rfl, (by first | exact sz5 (by walk_at "len") | exact szS (by omega)), ?_⟩
  | refine ⟨_, _, _, rfl, rfl, (by assumption), sz5l (by walk_at "len"), ?_⟩)
local macro_rules | `(tactic| walk_at "go") => `(tactic| repeat walk_at "g1")

section
variable {P : Program} {w : World} {K : PySem.W.Frag} {mg : Str → Option Value} {base : Heap}
def spDepthsOf (T : Txt K mg) : Sp := fun vs H Q _ => ∃ l, vs = [S l] ∧ l.length ≤ 90000 ∧ ∀ H' p, Same H H' → H p = none → H' p = some (.lst ((dps 0 l).map V.int)) → Q (.ref p) H'
theorem okDepthsOf (T : Txt K mg) : FnOk P w K mg base CX0 1 T.f_depths_of.a T.f_depths_of.fd ["text"] (spDepthsOf T) := by
  refine T.f_depths_of.F.ok scDepthsOf (fun vs H Q E h => ?_) (fun cdv A outer s H vs Q E hr h => ?_)
  · obtain ⟨l, rfl, _⟩ := h
    rfl
  · obtain ⟨l, rfl, hl, q⟩ := h
    refine ⟨_, (pss_cons (ps_set (i := 1) scDepthsOf.nd rfl (by first | exact Or.inl rfl | exact Or.inr rfl) (pe_lst (pa_cons pe_int pa_nil)))
      (pss_cons (ps_for PassesOwn.never rfl (pi_str (pv 0)) (pg_name (i := 2) scDepthsOf.nd rfl (by first | exact Or.inl rfl | exact Or.inr rfl))
      (pss_one (ps_if (pt_cmpR op_eq (pv 2) pe_str (nomark _)) (pss_one (ps_expr (pe_bm PySem.F.plainAttrs_list PySem.F.slot_list_append PySem.F.type_list_append mt_append (pv 1) (pa_cons (pe_op op_add (pe_ix ix_list (pv 1) (pe_un un_neg pe_int) (fun _ _ => rfl)) pe_int) pa_nil))))
      (pss_one (ps_expr (pe_bm PySem.F.plainAttrs_list PySem.F.slot_list_append PySem.F.type_list_append mt_append (pv 1) (pa_cons (pe_op op_sub (pe_ix ix_list (pv 1) (pe_un un_neg pe_int) (fun _ _ => rfl)) pe_int) pa_nil)))))))
      (pss_one (ps_ret (pv 1))))), ?_⟩
    refine ⟨sz5 (by decide), fun o no => ?_⟩
    refine ⟨_, rfl, _, rfl, for_txt (fun p σ H' => ∃ x, σ = [some (S l), some (.ref o), x] ∧ Same H H' ∧ H' o = some (.lst ((dps 0 p).map V.int)) ∧ p.length ≤ l.length) ⟨none, rfl, Same.new no, upd_same, Nat.zero_le _⟩ ?_ ?_⟩
    · rintro p c r σ H' e ⟨x, rfl, sm, ho, hp⟩
      have hlen : p.length + 1 ≤ l.length := by rw [e]; simp
      rw [show dps 0 p = dpi 0 p ++ [fin 0 p] from rfl, List.map_append] at ho
      refine ⟨_, rfl, rfl, _, rfl, ite2 (fun hc => ?_) (fun hc => ?_)⟩
      all_goals
        rw [d_op, decide_eq_true_eq] at hc
        walk_at "go"
        refine ⟨sm.mut no, ?_, by walk_at "len"⟩
        rw [upd_same, dps_snoc, dst]
        simp [hc, dps]
    · rintro σ H' ⟨x, rfl, sm, ho, _⟩
      exact ⟨_, rfl, q _ _ sm no ho⟩
def spIsClosed (T : Txt K mg) : Sp := fun vs H Q _ => ∃ l, vs = [S l] ∧ l.length ≤ 90000 ∧ ∀ H', Same H H' → Q (.bl (isClosed l)) H'
theorem okIsClosed (T : Txt K mg) : FnOk P w K mg base CX0 2 T.f_is_closed.a T.f_is_closed.fd ["text"] (spIsClosed T) := by
  refine T.f_is_closed.F.ok scIsClosed (fun vs H Q E h => ?_) (fun cdv A outer s H vs Q E hr h => ?_)
  · obtain ⟨l, rfl, _⟩ := h
    rfl
  · obtain ⟨l, rfl, hl, q⟩ := h
    refine ⟨_, (pss_cons (ps_set (i := 1) scIsClosed.nd rfl (by first | exact Or.inl rfl | exact Or.inr rfl) (pe_call (okDepthsOf T) (hr.mono (by decide)) (by rfl) T.f_depths_of.g T.f_depths_of.F.kp T.f_depths_of.b .nil pass0 (pa_cons (pv 0) pa_nil)))
      (pss_one (ps_ret (pe_and (pe_cmpR op_notIn_sign pe_str (pv 0) rfl) (pe_and (pe_cmpR op_ge (pe_callB (cr_min rfl) (by rfl) T.n_min (by decide +kernel) (pa_cons (pv 1) pa_nil)) pe_int (nomark _)) (pe_one (pe_cmpR op_eq (pe_ix ix_list (pv 1) (pe_un un_neg pe_int) (fun _ _ => rfl)) pe_int (nomark _)))))))), ?_⟩
    refine ⟨_, rfl, l, rfl, hl, fun H1 p sm np hp => ?_⟩
    have qb : ∀ b, isClosed l = b → Q (.bl b) H1 := fun b e => e ▸ q H1 sm
    refine ⟨_, rfl, 63, St_ l, congrArg V.str lit_q, rfl, _, rfl, ite2 (fun h1 => ?_) (fun h1 => ?_)⟩
    · have n63 : decide (63 ∉ l) = true := by simpa using h1
      refine ⟨_, rfl, p, dps 0 l, rfl, SqL.of hp, by rw [dps_len]; omega, fun m hm hle => ?_⟩
      refine ⟨_, _, rfl, rfl, _, rfl, ite2 (fun h2 => ?_) (fun h2 => ?_)⟩
      · have hall : (dps 0 l).all (fun d => decide (0 ≤ d)) = true := by
          rw [List.all_eq_true]
          intro x hx
          have := of_decide_eq_true h2
          have := hle x hx
          exact decide_eq_true (by omega)
        rw [show dps 0 l = dpi 0 l ++ [fin 0 l] from rfl, List.map_append] at hp
        walk_at "go"
        refine qb _ ?_
        unfold isClosed
        rw [n63, hall, d_int]
        rfl
      · refine qb _ ?_
        unfold isClosed
        have hall : (dps 0 l).all (fun d => decide (0 ≤ d)) = false := by
          rw [List.all_eq_false]
          exact ⟨m, hm, by simpa using h2⟩
        rw [n63, hall]
        rfl
    · refine qb _ ?_
      unfold isClosed
      have n63 : decide (63 ∉ l) = false := by simpa using h1
      rw [n63]
      rfl
theorem d_row (l : List Nat) : decide (V.str (Txt.stripChars (St_ l) (Str.ofString "()?")) = V.str (Str.ofString "")) = decide (∀ c ∈ l, c ∈ [40, 41, 63]) := by
  rw [lit_ocq, lit_e, decide_eq_decide, ← strip_S]
  exact ⟨V.str.inj, fun h => congrArg V.str h⟩
theorem row_iff (l : List Nat) : (∀ c ∈ l, c ∈ [40, 41, 63]) ↔ IsRow l := by
  unfold IsRow
  simp
/-- a value that is no text -/
def NotS (K : PySem.W.Frag) (H : Hp) (v : V) : Prop := ∃ t, TyX K H v t ∧ PySem.W.kitOne K t (.type "str") = some false
def spAskedRow (T : Txt K mg) : Sp := fun vs H Q E => ∃ v, vs = [v] ∧ ((∃ l, v = S l ∧ l.length ≤ 90000 ∧ (IsRow l → Q .non H) ∧ (¬ IsRow l → E (.ref T.c_BadRow) none H)) ∨ (NotS K H v ∧ E (.ref T.c_BadRow) none H))
theorem okAskedRow (T : Txt K mg) : FnOk P w K mg base (L2N.CX P w) 2 T.f_asked_row.a T.f_asked_row.fd ["row"] (spAskedRow T) := by
  refine T.f_asked_row.F.okXN scAskedRow (fun vs H Q E h => ?_) (fun cdv A outer s H vs Q E hr h => ?_)
  · obtain ⟨v, rfl, _⟩ := h
    rfl
  · obtain ⟨v, rfl, h⟩ := h
    refine ⟨_, (pss_one (ps_if (PW.pt (pw_or (pt_not (pt_val (pe_callB call_isi (by rfl) T.n_isinstance (by decide +kernel) (pa_cons (pv 0) (pa_cons (pe_bltn (v := .ty "str") (by rfl) T.n_str (by decide +kernel) rfl) pa_nil))))) (pw_or1 (pt_cmpR op_ne (pe_bm PySem.F.plainAttrs_str PySem.F.slot_str_strip PySem.F.type_str_strip mt_stripChars (pv 0) (pa_cons pe_str pa_nil)) pe_str (nomark _))))) (pss_one (L2N.ps_raise rfl (L2N.takes_of rfl rfl rfl rfl) (L2N.pmk_own PySem.F.excBase_ValueError T.x_BadRow T.g_BadRow T.k_BadRow (raises_own T.b_BadRow T.t_BadRow) (by rfl))))
      pss_nil)), ?_⟩
    rcases h with ⟨l, rfl, hl, q1, q2⟩ | ⟨⟨t, ht, hk⟩, q⟩
    · refine ⟨_, rfl, _, _, _, _, true, rfl, .ty "str", .base (.str _), kit_ty (by decide +kernel), _, rfl, iteF ?_⟩
      refine ⟨_, rfl, rfl, _, _, rfl, rfl, szS (by omega), rfl, _, rfl, ite2 (fun hc => ?_) (fun hc => ?_)⟩
      · refine q2 fun hr => ?_
        rw [d_row, decide_eq_true ((row_iff l).mpr hr)] at hc
        cases hc
      · refine q1 ((row_iff l).mp ?_)
        rw [d_row] at hc
        exact Classical.byContradiction fun hn => by rw [decide_eq_false hn] at hc; exact hc rfl
    · refine ⟨_, rfl, _, _, _, _, false, rfl, .ty "str", ht, hk, _, rfl, iteT ?_⟩
      exact q
def spDepths (T : Txt K mg) : Sp := fun vs H Q E => ∃ v, vs = [v] ∧ ((∃ l, v = S l ∧ l.length ≤ 90000 ∧ (¬ IsRow l → E (.ref T.c_BadRow) none H) ∧ (IsRow l → isClosed l = false → ∀ H', Same H H' → E (.ref T.c_NoFilling) none H') ∧
  (IsRow l → isClosed l = true → ∀ H' p, Same H H' → H p = none → H' p = some (.lst ((dps 0 l).map V.int)) → Q (.ref p) H')) ∨ (NotS K H v ∧ E (.ref T.c_BadRow) none H))
theorem okDepths (T : Txt K mg) : FnOk P w K mg base (L2N.CX P w) 3 T.f_depths.a T.f_depths.fd ["row"] (spDepths T) := by
  refine T.f_depths.F.okXN scDepths (fun vs H Q E h => ?_) (fun cdv A outer s H vs Q E hr h => ?_)
  · obtain ⟨v, rfl, _⟩ := h
    rfl
  · obtain ⟨v, rfl, h⟩ := h
    refine ⟨_, (pss_cons (ps_expr (pe_call (okAskedRow T) (hr.mono (by decide)) (by rfl) T.f_asked_row.g T.f_asked_row.F.kp T.f_asked_row.b .nil (L2N.passes_call (L2N.takes_of rfl rfl rfl rfl) (fun _ _ _ _ h => h)) (pa_cons (pv 0) pa_nil)))
      (pss_cons (ps_if (pt_not (pt_val (pe_call (okIsClosed T) (hr.mono (by decide)) (by rfl) T.f_is_closed.g T.f_is_closed.F.kp T.f_is_closed.b .nil pass0 (pa_cons (pv 0) pa_nil)))) (pss_one (L2N.ps_raise rfl (L2N.takes_of rfl rfl rfl rfl) (L2N.pmk_own PySem.F.excBase_ValueError T.x_NoFilling T.g_NoFilling T.k_NoFilling (raises_own T.b_NoFilling T.t_NoFilling) (by rfl))))
      pss_nil)
      (pss_one (ps_ret (pe_call (okDepthsOf T) (hr.mono (by decide)) (by rfl) T.f_depths_of.g T.f_depths_of.F.kp T.f_depths_of.b .nil pass0 (pa_cons (pv 0) pa_nil)))))), ?_⟩
    rcases h with ⟨l, rfl, hl, q1, q2, q3⟩ | ⟨hn, q⟩
    · refine ⟨_, rfl, S l, rfl, .inl ⟨l, rfl, hl, fun hr => ?_, q1⟩⟩
      refine ⟨_, rfl, l, rfl, hl, fun H1 sm => ?_⟩
      refine ⟨_, rfl, ?_⟩
      cases hc : isClosed l with
      | true => exact iteF ⟨_, rfl, l, rfl, hl, fun H2 p s2 np hp => q3 hr hc _ _ (sm.trans s2) (sm.free np) hp⟩
      | false => exact iteT (q2 hr hc H1 sm)
    · exact ⟨_, rfl, v, rfl, .inr ⟨hn, q⟩⟩
def spPartners (T : Txt K mg) : Sp := fun vs H Q E => ∃ v, vs = [v] ∧ ((∃ l, v = S l ∧ l.length ≤ 90000 ∧ (¬ IsRow l → E (.ref T.c_BadRow) none H) ∧ (IsRow l → isClosed l = false → ∀ H', Same H H' → E (.ref T.c_NoFilling) none H') ∧
  (IsRow l → isClosed l = true → ∀ H' p f, PM l f → Same H H' → H p = none → H' p = some (.lst (f.map V.int)) → Q (.ref p) H')) ∨ (NotS K H v ∧ E (.ref T.c_BadRow) none H))
theorem okPartners (T : Txt K mg) : FnOk P w K mg base (L2N.CX P w) 3 T.f_partners.a T.f_partners.fd ["row"] (spPartners T) := by
  refine T.f_partners.F.okXN scPartners (fun vs H Q E h => ?_) (fun cdv A outer s H vs Q E hr h => ?_)
  · obtain ⟨v, rfl, _⟩ := h
    rfl
  · obtain ⟨v, rfl, h⟩ := h
    refine ⟨_, (pss_cons (ps_expr (pe_call (okAskedRow T) (hr.mono (by decide)) (by rfl) T.f_asked_row.g T.f_asked_row.F.kp T.f_asked_row.b .nil (L2N.passes_call (L2N.takes_of rfl rfl rfl rfl) (fun _ _ _ _ h => h)) (pa_cons (pv 0) pa_nil)))
      (pss_cons (ps_if (pt_not (pt_val (pe_call (okIsClosed T) (hr.mono (by decide)) (by rfl) T.f_is_closed.g T.f_is_closed.F.kp T.f_is_closed.b .nil pass0 (pa_cons (pv 0) pa_nil)))) (pss_one (L2N.ps_raise rfl (L2N.takes_of rfl rfl rfl rfl) (L2N.pmk_own PySem.F.excBase_ValueError T.x_NoFilling T.g_NoFilling T.k_NoFilling (raises_own T.b_NoFilling T.t_NoFilling) (by rfl))))
      pss_nil)
      (PSs.nox (pss_cons (ps_set (i := 1) scPartners.nd rfl (by first | exact Or.inl rfl | exact Or.inr rfl) (pe_lst pa_nil))
      (pss_cons (ps_setLc (i := 2) (own := [("sign", 3)]) rfl scPartners.nd rfl rfl (sw_true rfl rfl rfl (by decide +kernel)) (pi_str (pv 0)) (blkOk_by (own := [("sign", 3)]) (N := ["row", "open_at", "found", "sign", "place", "other"]) (sc := defScope sPartners) (by decide +kernel)) (fun _ _ _ _ _ => (pg_name (i := 3) scPartners.nd rfl (by first | exact Or.inl rfl | exact Or.inr rfl))) (fun _ _ _ _ _ => pts_nil) (fun _ _ _ _ _ => pe_int))
      (pss_cons (ps_for PassesOwn.never rfl (pi_enumS (by rfl) T.n_enumerate (pa_cons (pv 0) pa_nil)) (pg_tup rfl (pgs_cons (pg_name (i := 4) scPartners.nd rfl (by first | exact Or.inl rfl | exact Or.inr rfl)) (pgs_cons (pg_name (i := 3) scPartners.nd rfl (by first | exact Or.inl rfl | exact Or.inr rfl)) pgs_nil)))
      (pss_one (ps_if (pt_cmpR op_eq (pv 3) pe_str (nomark _)) (pss_one (ps_expr (pe_bm PySem.F.plainAttrs_list PySem.F.slot_list_append PySem.F.type_list_append mt_append (pv 1) (pa_cons (pv 4) pa_nil))))
      (pss_cons (ps_set (i := 5) scPartners.nd rfl (by first | exact Or.inl rfl | exact Or.inr rfl) (pe_bm0 PySem.F.plainAttrs_list PySem.F.slot_list_pop PySem.F.type_list_pop mt_pop (pv 1)))
      (pss_cons (ps_asg (pv 5) (pg_sub (pv 2) (pv 4) set_list))
      (pss_one (ps_asg (pv 4) (pg_sub (pv 2) (pv 5) set_list))))))))
      (pss_one (ps_ret (pv 2))))))))), ?_⟩
    rcases h with ⟨l, rfl, hl, q1, q2, q3⟩ | ⟨hn, q⟩
    · refine ⟨_, rfl, S l, rfl, .inl ⟨l, rfl, hl, fun hr => ?_, q1⟩⟩
      refine ⟨_, rfl, l, rfl, hl, fun H1 sm => ?_⟩
      refine ⟨_, rfl, ?_⟩
      cases hc : isClosed l with
      | false => exact iteT (q2 hr hc H1 sm)
      | true =>
        refine iteF ⟨Nat.zero_le _, fun o1 n1 => ?_⟩
        have hrun := (isClosed_iff l hr).mp hc
        refine ⟨_, rfl, _, rfl, fun o2 n2 => lc_txtY (fun _ => .int 0) n2 (by omega) (fun _ => rfl) (fun c H' _ _ Q q => q _ (Same.refl _)) fun H2 s2 e2 => ?_⟩
        have h1 : H2 o1 = some (.lst []) := s2 _ _ upd_same
        have ne : o1 ≠ o2 := ne_of_none upd_same n2
        have n0 : H1 o2 = none := (Same.new n1).free n2
        refine ⟨_, rfl, _, rfl, for_enS (fun p σ H' => ∃ x3 x4 x5 s f, σ = [some (S l), some (.ref o1), some (.ref o2), x3, x4, x5] ∧ Same H1 H' ∧ H' o1 = some (.lst (s.map fun n : Nat => V.int n)) ∧ H' o2 = some (.lst (f.map V.int)) ∧ PI l p.length s f ∧ s.length ≤ p.length)
          ⟨_, _, _, [], List.replicate l.length 0, rfl, (Same.new n1).trans s2, h1, by rw [e2, map_k]; simp, PI.start l _ (by simp), Nat.le_refl _⟩ ?_ ?_⟩
        · rintro p c r σ H3 H4 e ⟨x3, x4, x5, s, f, rfl, sm3, g1, g2, pi, hs⟩ s34
          have hi : l[p.length]? = some c := by rw [e, List.getElem?_append_right (Nat.le_refl _), Nat.sub_self]; rfl
          have hil := (List.getElem?_eq_some_iff.mp hi).1
          have g1' := s34 _ _ g1
          have g2' := s34 _ _ g2
          have sm4 := sm3.trans s34
          refine ⟨_, rfl, rfl, _, rfl, ite2 (fun h4 => ?_) (fun h4 => ?_)⟩
          · rw [d_op, decide_eq_true_eq] at h4
            subst h4
            walk_at "go"
            refine ⟨_, _, _, s ++ [p.length], f, rfl, sm4.mut n1, ?_, ?_, ?_, by walk_at "len"⟩
            · rw [upd_same, List.map_append]; rfl
            · rw [upd_ne ne.symm]; exact g2'
            · rw [List.length_append]; exact pi.openS hi
          · rw [d_op, decide_eq_true_eq] at h4
            obtain ⟨s', o, rfl, hol, hoi⟩ := pi.top hi h4 hrun
            have hfl := pi.len
            refine ⟨_, rfl, .inl ⟨rfl, _, SqL.of g1'⟩, _, _, .int o, rfl, rfl, g1', by simp, ?_⟩
            rw [List.map_append, List.map_cons, List.map_nil, List.dropLast_concat]
            have g2'' : (upd H4 o1 (HO.lst (s'.map fun n : Nat => V.int n))) o2 = some (.lst (f.map V.int)) := by rw [upd_ne ne.symm]; exact g2'
            refine ⟨_, rfl, _, rfl, _, rfl, o2, _, _, p.length, rfl, rfl, g2'', ixN_nat (by rw [List.length_map]; omega), ?_⟩
            refine ⟨_, rfl, _, rfl, _, rfl, o2, _, _, o, rfl, rfl, upd_same, ixN_nat (by rw [List.length_set, List.length_map]; omega), ?_⟩
            refine ⟨_, _, _, s', (f.set p.length (o : Int)).set o (p.length : Int), rfl, ?_, ?_, ?_, ?_, ?_⟩
            · exact ((sm4.mut n1).mut n0).mut n0
            · rw [upd_ne ne, upd_ne ne, upd_same]
            · rw [upd_same, List.map_set, List.map_set]
            · rw [List.length_append]; exact pi.closeS hi h4
            · rw [List.length_append] at hs ⊢; simp at hs ⊢; omega
        · rintro σ H3 ⟨x3, x4, x5, s, f, rfl, sm3, g1, g2, pi, hs⟩
          exact ⟨_, rfl, q3 hr hc _ _ f (pi.done hrun) (sm.trans sm3) (sm.free n0) g2⟩
    · exact ⟨_, rfl, v, rfl, .inr ⟨hn, q⟩⟩
end
end HT5

set_option linter.all false
namespace BR
/-- a row that is being closed: i of M signs are told, t is the text so far, d are open -/
structure CB (M i : Nat) (t : List Nat) (d : Nat) : Prop where
  run : run 0 t = some d
  len : t.length = i
  le : d + i ≤ M
  par : (M - i - d) % 2 = 0
theorem CB.start {M : Nat} (h : M % 2 = 0) : CB M 0 [] 0 := ⟨rfl, rfl, by omega, by omega⟩
theorem CB.op {M i d : Nat} {t : List Nat} (c : CB M i t d) (hi : i < M) (h : d = 0 ∨ (d : Int) < (M : Int) - i) : CB M (i + 1) (t ++ [40]) (d + 1) := by
  have h1 := c.le
  have h2 := c.par
  refine ⟨?_, by rw [List.length_append, c.len]; rfl, by omega, by omega⟩
  rw [run_app, c.run]; rfl
theorem CB.cl {M i d : Nat} {t : List Nat} (c : CB M i t d) (hi : i < M) (h : d ≠ 0) : CB M (i + 1) (t ++ [41]) (d - 1) := by
  have h1 := c.le
  have h2 := c.par
  refine ⟨?_, by rw [List.length_append, c.len]; rfl, by omega, by omega⟩
  rw [run_app, c.run]
  cases d with
  | zero => exact absurd rfl h
  | succ k => rfl
theorem CB.done {M d : Nat} {t : List Nat} (c : CB M M t d) : BR.run 0 t = some 0 := by
  have h1 := c.le
  have : d = 0 := by omega
  rw [c.run, this]
end BR

set_option Elab.async false
set_option linter.all false
set_option maxRecDepth 100000
set_option maxHeartbeats 4000000
namespace HT5
open PySem PySem.Spec PyProof.Rows L2 BR
local macro_rules | `(tactic| walk_at "sq") => `(tactic| first | exact SqL.of (by assumption) | exact SqL.of upd_same | exact SqT.of (by assumption) | exact SqT.of upd_same | assumption | exact Same.seq (by assumption) (by assumption) | exact Same.seq (Same.trans (by assumption) (by assumption)) (by assumption))
local macro_rules | `(tactic| walk_at "len") => `(tactic| (simp only [List.length_append, List.length_map, List.length_cons, List.length_nil, List.length_set, List.length_replicate, List.length_take, List.length_drop, List.length_reverse, List.length_range, dpi_len, dps_len, len_S]; omega))
local macro_rules | `(tactic| walk_at "g1") => `(tactic| first
  | refine ⟨_, rfl, ?_⟩
  | refine ⟨rfl, ?_⟩
  | refine ⟨_, _, rfl, rfl, @id.{0} _ (by first | decide | omega | exact ⟨by decide, by decide⟩ | exact .inr ⟨by decide, by decide⟩ | (show (0 : Int) < _; decide)), ?_⟩
  | refine ⟨_, _, rfl, rfl, ?_⟩
  | refine ⟨_, _, _, _, rfl, rfl, (by walk_at "sq"), (by first | exact atI_last _ _ | (with_reducible exact atI_nat (by assumption))), ?_⟩
  | refine ⟨.inl ⟨rfl, _, (by walk_at "sq")⟩, ?_⟩
  | refine ⟨_, _, rfl, (by first | exact .inl (by walk_at "sq") | exact .inr (by walk_at "sq")), ?_⟩
  | refine ⟨_, rfl, (by first | exact sz5 (by walk_at "len") | exact szS (by omega)), ?_⟩
  | refine ⟨_, _, _, rfl, rfl, (by assumption), sz5l (by walk_at "len"), ?_⟩)
local macro_rules | `(tactic| walk_at "go") => `(tactic| repeat walk_at "g1")

section
variable {P : Program} {w : World} {K : PySem.W.Frag} {mg : Str → Option Value} {base : Heap}
def spLawClosedRow (T : Txt K mg) : Sp := fun vs H Q _ => ∃ (a : Addr) (ns : List Int), vs = [.ref a] ∧ SqL K H a (ns.map V.int) ∧ ns.length ≤ 63 ∧ ∀ H' l, run 0 l = some 0 → l.length ≤ 63 → Same H H' → Q (S l) H'
theorem okLawClosedRow (T : Txt K mg) : FnOk P w K mg base CX0 1 T.f__law_closed_row.a T.f__law_closed_row.fd ["_law_script"] (spLawClosedRow T) := by
  refine T.f__law_closed_row.F.ok scLawClosedRow (fun vs H Q E h => ?_) (fun cdv A outer s H vs Q E hr h => ?_)
  · obtain ⟨a, ns, rfl, _⟩ := h
    rfl
  · obtain ⟨a, ns, rfl, hS, hl, q⟩ := h
    refine ⟨_, (pss_cons (ps_set (i := 1) scLawClosedRow.nd rfl (by first | exact Or.inl rfl | exact Or.inr rfl) (pe_op op_mul (pe_op op_fdiv (pe_callB call_len_seq (by rfl) T.n_len PySem.boot_len (pa_cons (pv 0) pa_nil)) pe_int) pe_int))
      (pss_cons (ps_set (i := 2) scLawClosedRow.nd rfl (by first | exact Or.inl rfl | exact Or.inr rfl) pe_int)
      (pss_cons (ps_set (i := 3) scLawClosedRow.nd rfl (by first | exact Or.inl rfl | exact Or.inr rfl) (pe_lst pa_nil))
      (pss_cons (ps_for PassesOwn.never rfl (pi_enum (by rfl) T.n_enumerate (pa_cons (pe_slice sl_list (pv 0) po_none (po_some (pv 1))) pa_nil)) (pg_tup rfl (pgs_cons (pg_name (i := 4) scLawClosedRow.nd rfl (by first | exact Or.inl rfl | exact Or.inr rfl)) (pgs_cons (pg_name (i := 5) scLawClosedRow.nd rfl (by first | exact Or.inl rfl | exact Or.inr rfl)) pgs_nil)))
      (pss_cons (ps_set (i := 6) scLawClosedRow.nd rfl (by first | exact Or.inl rfl | exact Or.inr rfl) (pe_or (pe_cmpR op_eq (pv 2) pe_int (nomark _)) (pe_one (pe_and (pe_cmpR op_lt (pv 2) (pe_op op_sub (pv 1) (pv 4)) (nomark _)) (pe_one (pe_cmpR op_gt (pe_op op_mod (pv 5) pe_int) pe_int (nomark _)))))))
      (pss_cons (ps_set (i := 2) scLawClosedRow.nd rfl (by first | exact Or.inl rfl | exact Or.inr rfl) (pe_ifExp (pt_val (pv 6)) (pe_op op_add (pv 2) pe_int) (pe_op op_sub (pv 2) pe_int)))
      (pss_one (ps_expr (pe_bm PySem.F.plainAttrs_list PySem.F.slot_list_append PySem.F.type_list_append mt_append (pv 3) (pa_cons (pe_ifExp (pt_val (pv 6)) pe_str pe_str) pa_nil)))))))
      (pss_one (ps_ret (pe_join pe_str (pv 3)))))))), ?_⟩
    obtain ⟨M, hM⟩ : ∃ M, M = ns.length / 2 * 2 := ⟨_, rfl⟩
    refine sq_set (.int (M : Int)) (fun Q q => ?_) ?_
    · have e2 : (((ns.map V.int).length : Nat) : Int) / 2 * 2 = (M : Int) := by rw [List.length_map, hM]; omega
      rw [← e2] at q
      walk_at "go"
      exact q
    refine ⟨Nat.zero_le _, fun o no => ?_⟩
    refine ⟨_, rfl, _, rfl, _, rfl, a, _, rfl, (Same.new no).seq hS, fun p1 np1 => ?_⟩
    have ne : o ≠ p1 := ne_of_none upd_same np1
    rw [cutV_to, ← List.map_take]
    refine ⟨p1, _, rfl, SqL.of upd_same, for_enL (K := K) (a := p1) (f := V.int) (xs := ns.take M) (fun p σ H' => ∃ x4 x5 x6 t d, σ = [some (.ref a), some (.int (M : Int)), some (.int ((d : Nat) : Int)), some (.ref o), x4, x5, x6] ∧ Same H H' ∧ H' p1 = some (.lst ((ns.take M).map V.int)) ∧ H' o = some (.lst (t.map ch)) ∧ CB M p.length t d)
      ⟨_, _, _, [], 0, rfl, (Same.new no).trans (Same.new np1), upd_same, by rw [upd_ne ne]; exact upd_same, CB.start (by omega)⟩ (fun p σ H' ⟨_, _, _, _, _, _, _, h, _⟩ => SqL.of h) ?_ ?_⟩
    · rintro p c r σ H3 H4 e ⟨x4, x5, x6, t, d, rfl, sm, g1, g2, cb⟩ s34
      have hp : p.length < M := by
        have := congrArg List.length e
        rw [List.length_take, List.length_append, List.length_cons] at this
        omega
      have hMn : M ≤ 63 := by omega
      have htl := cb.len
      have g1' := s34 _ _ g1
      have g2' := s34 _ _ g2
      have sm4 := sm.trans s34
      have n1 : H p1 = none := (Same.new no).free np1
      -- opens
      obtain ⟨b, hb1, hb2, hb⟩ : ∃ b : Bool, (b = true → d = 0 ∨ (d : Int) < (M : Int) - p.length) ∧ (b = false → d ≠ 0) ∧ b = (decide ((d : Int) = 0) || (decide ((d : Int) < (M : Int) - (p.length : Nat)) && decide (0 < c % 3))) := by
        refine ⟨_, fun h => ?_, fun h => ?_, rfl⟩
        · simp only [Bool.or_eq_true, Bool.and_eq_true, decide_eq_true_eq] at h
          omega
        · simp only [Bool.or_eq_false_iff, decide_eq_false_iff_not] at h
          omega
      refine sq_set (.bl b) (fun Q q => ?_) ?_
      · rw [hb] at q
        refine ⟨_, rfl, rfl, _, rfl, ?_⟩
        rw [d_int]
        refine ite2 (fun h => ?_) (fun h => ?_)
        · rw [h] at q; exact q
        · rw [Bool.not_eq_true] at h
          rw [h] at q
          walk_at "go"
          refine ite2 (fun h1 => ?_) (fun h1 => ?_)
          · rw [h1] at q
            walk_at "go"
            exact q
          · rw [Bool.not_eq_true] at h1
            rw [h1] at q
            exact q
      refine sq_set (.int ((if b then d + 1 else d - 1 : Nat) : Int)) (fun Q q => ?_) ?_
      · refine ⟨_, rfl, _, rfl, ?_⟩
        cases b with
        | true => refine iteT ?_; walk_at "go"; exact q
        | false =>
          have e1 : ((d - 1 : Nat) : Int) = (d : Int) - 1 := by have := hb2 rfl; omega
          have q : Q (.int ((d - 1 : Nat) : Int)) H4 := q
          rw [e1] at q
          refine iteF ?_; walk_at "go"; exact q
      refine ⟨_, rfl, .inl ⟨rfl, _, SqL.of g2'⟩, ⟨_, rfl, _, rfl, ?_⟩⟩
      cases b with
      | true =>
        refine iteT ⟨_, _, _, rfl, rfl, g2', sz5l (by walk_at "len"), _, _, _, t ++ [40], d + 1, rfl, sm4.mut no, ?_, ?_, ?_⟩
        · rw [upd_ne ne.symm]; exact g1'
        · rw [upd_same, lit_op, List.map_append]; rfl
        · rw [List.length_append]; exact cb.op hp (hb1 rfl)
      | false =>
        refine iteF ⟨_, _, _, rfl, rfl, g2', sz5l (by walk_at "len"), _, _, _, t ++ [41], d - 1, rfl, sm4.mut no, ?_, ?_, ?_⟩
        · rw [upd_ne ne.symm]; exact g1'
        · rw [upd_same, lit_cl, List.map_append]; rfl
        · rw [List.length_append]; exact cb.cl hp (hb2 rfl)
    · rintro σ H3 ⟨x4, x5, x6, t, d, rfl, sm, g1, g2, cb⟩
      have hlen : (ns.take M).length = M := by rw [List.length_take]; omega
      rw [hlen] at cb
      have htl := cb.len
      exact ⟨⟨_, rfl⟩, _, rfl, join_rd (SqL.of g2) (by omega) (q _ t cb.done (by omega) sm)⟩
def spLawPartner (T : Txt K mg) : Sp := fun vs H Q _ => ∃ (l : List Nat) (a b : Nat), vs = [S l, .int a] ∧ l.length ≤ 1000 ∧ IsRow l ∧ b < l.length ∧ Pr l a b ∧ Q (.int b) H
theorem okLawPartner (T : Txt K mg) : FnOk P w K mg base CX0 1 T.f__law_partner.a T.f__law_partner.fd ["_law_row", "_law_place"] (spLawPartner T) := by
  refine T.f__law_partner.F.ok scLawPartner (fun vs H Q E h => ?_) (fun cdv A outer s H vs Q E hr h => ?_)
  · obtain ⟨l, a, b, rfl, _⟩ := h
    rfl
  · obtain ⟨l, a, b, rfl, hl, hr, hb, hp, q⟩ := h
    refine ⟨_, (pss_cons (ps_set (i := 2) scLawPartner.nd rfl (by first | exact Or.inl rfl | exact Or.inr rfl) pe_int)
      (pss_cons (ps_set (i := 3) scLawPartner.nd rfl (by first | exact Or.inl rfl | exact Or.inr rfl) (pv 1))
      (pss_one (ps_while PassesOwn.never (pt_val pe_bl)
      (pss_cons (ps_set (i := 2) scLawPartner.nd rfl (by first | exact Or.inl rfl | exact Or.inr rfl) (pe_ifExp (pt_cmpR op_eq (pe_ix ix_str (pv 0) (pv 3) (fun _ _ => rfl)) pe_str (nomark _)) (pe_op op_add (pv 2) pe_int) (pe_op op_sub (pv 2) pe_int)))
      (pss_cons (ps_if (pt_cmpR op_eq (pv 2) pe_int (nomark _)) (pss_one (ps_ret (pv 3)))
      pss_nil)
      (pss_one (ps_set (i := 3) scLawPartner.nd rfl (by first | exact Or.inl rfl | exact Or.inr rfl) (pe_op op_add (pv 3) pe_int))))))))), ?_⟩
    refine sq_set (.int 0) (fun Q q => q) (sq_set (.int a) (fun Q q => ⟨_, rfl, q⟩) ?_)
    have w0 : ([some (S l), some (V.int a), some (V.int 0), some (V.int a)] : L2.St) = [some (S l), some (V.int a), some (V.int (Dp l a - Dp l a)), some (V.int a)] := by rw [Int.sub_self]
    refine ⟨fun m σ H' => ∃ t : Nat, m = b - t ∧ σ = [some (S l), some (.int a), some (.int (Dp l t - Dp l a)), some (.int t)] ∧ H' = H ∧ a ≤ t ∧ t ≤ b, ⟨_, a, rfl, w0, rfl, Nat.le_refl _, Nat.le_of_lt hp.1⟩, ?_⟩
    rintro m σ H' ⟨t, rfl, rfl, rfl, h1, h2⟩
    refine ⟨_, rfl, iteT ⟨fun σ' H'' => σ' = [some (S l), some (.int a), some (.int (Dp l (t + 1) - Dp l a)), some (.int ((t + 1 : Nat) : Int))] ∧ H'' = H' ∧ t + 1 ≤ b, fun σ' H'' ⟨e1, e2, e3⟩ => ⟨b - (t + 1), by omega, t + 1, rfl, e1, e2, by omega, e3⟩, ?_⟩⟩
    have htl : t < l.length := by omega
    have hc : l[t]? = some l[t] := List.getElem?_eq_getElem htl
    have hd := Dp_succ hc
    refine sq_set (.int (Dp l (t + 1) - Dp l a)) (fun Q q => ?_) ?_
    · refine ⟨_, rfl, _, rfl, _, _, _, rfl, rfl, szS (by omega), atI_nat hc, rfl, _, rfl, ?_⟩
      rw [d_op, hd] at *
      unfold dst at q
      refine ite2 (fun h => ?_) (fun h => ?_)
      · rw [if_pos (of_decide_eq_true h)] at q
        walk_at "go"
        have e : Dp l t - Dp l a + 1 = Dp l t + 1 - Dp l a := by omega
        rw [← e] at q
        exact q
      · rw [if_neg (fun z => h (decide_eq_true z))] at q
        walk_at "go"
        have e : Dp l t - Dp l a - 1 = Dp l t - 1 - Dp l a := by omega
        rw [← e] at q
        exact q
    · refine ⟨_, rfl, rfl, _, rfl, ?_⟩
      rw [d_int]
      refine ite2 (fun h => ?_) (fun h => ?_)
      · have h := of_decide_eq_true h
        have e : t = b := by
          refine Classical.byContradiction fun ne => ?_
          have := hp.2.2 (t + 1) (by omega) (by omega)
          omega
        subst e
        exact ⟨_, rfl, q⟩
      · have ne : t ≠ b := fun e => by
          subst e
          refine h (decide_eq_true ?_)
          have := hp.2.1
          omega
        walk_at "go"
        omega
end
end HT5

set_option Elab.async false
set_option linter.all false
set_option maxRecDepth 100000
set_option maxHeartbeats 4000000
/-! Calls of a name that holds one of several defs; suites. -/
namespace L2
open PySem PySem.Spec PyProof.Rows
/-- what a def at f promises, for several f -/
def HeldX (P : Program) (w : World) (K : PySem.W.Frag) (mg : Str → Option Value) (base : Heap) (CX : CXT) (k : Nat) (f : Addr) (sp : Sp) : Prop :=
  ∃ (fd : FuncData) (ps : List Str), FnOk P w K mg base CX k f fd ps sp ∧ PySem.W.keepIn K (.ref f) = true ∧ Binds K fd ps []
def tCallX (i : Nat) (S : Addr → Sp → Prop) (E : St → XK) (t : TA) : TE := fun σ H Q => ∃ f sp, σ[i]? = some (some (.ref f)) ∧ S f sp ∧ t σ H fun vs H1 => sp vs H1 Q (E σ)
section
variable {X : Cx} {CX : CXT} {k i : Nat} {E : St → XK} {x : Str} {p pos : Pos} {e : Expr} {es : List Expr} {t : TA} {S : Addr → Sp → Prop}
theorem pe_callX (A : ∀ f sp, S f sp → HeldX X.prog X.w X.K X.mg X.base CX k f sp) (hr : Room k X.A) (hN : X.N[i]? = some x) (hv : Vis X.env.scope x) (hx : ∀ σ, PassesAt CX X σ (E σ)) (ha : PA X (e :: es) t)
    (hdb : (x == ("__debug__" : Str)) = false := by decide) (hcd : (x == ("__classdict__" : Str)) = false := by decide)
    (he : starEach (e :: es) X.env = (false, eval e X.env) :: starEach es X.env := by rfl) (hpl : (backTo pos (starEach es X.env)).any (·.1) = false := by rfl) : PE X (.Call (.Name x p) (e :: es) [] pos) (tCallX i S E t) := by
  refine ⟨fun pins s σ H Q I h => ?_⟩
  obtain ⟨f, sp, hs, hS, ht⟩ := h
  obtain ⟨fd, ps, F, hk, hb⟩ := A f sp hS
  refine wpAny_Call_Name_kw (thn ((pe_var (pos := p) hN hv hdb hcd).run pins s σ H (fun v H1 => v = .ref f ∧ H1 = H) I ⟨.ref f, hs, rfl, rfl⟩) fun u s1 ⟨v, H1, I1, r1, q1⟩ => ?_)
  obtain ⟨rfl, rfl⟩ := q1
  cases r1
  refine PySem.W.callWith_K (h₀ := X.base) I.ok.mod.kin hk (thn (ha.run pos pins s1 σ _ _ I1 ht) fun us s2 ⟨vs, H2, I2, r, q⟩ => ⟨I2.kIn, ?_⟩) he hpl
  exact run_fnS F hr hb (hx σ) I2 r q
end
theorem pss_if {X : Cx} {st : List Stmt} {t : TS} {p : Prop} (h : p → PSs X st t) : PSs X st (fun D σ H => p ∧ t D σ H) := ⟨fun pins s σ H D I hw => (h hw.1).run pins s σ H D I hw.2⟩
end L2
namespace L2
open PySem PySem.Spec PyProof.Rows L2H HotX
section
variable {prog : Program} {w : World} {A : Around} {E : Value → Shared → Prop} {s : Shared}
theorem pyNext_list_end_hot {it l x1 : Addr} {i : Nat} {items : Array Value} {Q : Option Value → Shared → Prop} (hot : HotAt A x1 s.heap)
    (hit : s.heap.IsListIter it l i) (hl : s.heap.IsList l items) (hx : items[i]? = none) (hne : x1 ≠ it)
    (hQ : ∀ h', Heap.ExtBut it s.heap h' → Q none { s with heap := h' }) : wpAny (model prog w) A (pyNext (.ref it)) Q E s := by
  obtain ⟨o, ho, hc, hd⟩ := id hit
  obtain ⟨ol, hol, _, nl, hdl⟩ := hl
  obtain ⟨hh, o1, vs1, h1, d1, c1⟩ := hot
  unfold pyNext
  refine wpAny_bind (wpAny_attempt (wpAny_callSpecial?_slot (name := Str.ofString "__next__") hit.typeIs slot_listiter_next
    (wpAny_call_entry slot_listiter_next hit.typeIs entry_listiter_next ?_ (args_listiter_next _))))
  show wpAny _ _ (field (.ref it) 0 >>= _) _ _ s
  refine wpAny_bind (wpAny_field ho hd (x := .ref l) rfl ?_)
  show wpAny _ _ (if (Value.ref l == Value.none) = true then _ else _) _ _ s
  rw [if_neg (show ¬ ((Value.ref l == Value.none) = true) from Bool.false_ne_true)]
  show wpAny _ _ (field (.ref it) 1 >>= _) _ _ s
  refine wpAny_bind (wpAny_field ho hd (x := .int i 0) rfl ?_)
  show wpAny _ _ (seqItems? (.ref l) >>= _) _ _ s
  refine wpAny_bind (wpAny_seqItems hol hdl ?_)
  simp only [Int.toNat_natCast, hx]
  refine wpAny_bind (wpAny_rule (wpAny_bind (wpAny_setField ho hd (by simp) ?_)))
  show wpAny _ _ (newExc (.type "StopIteration") [] >>= _) _ _ _
  refine wpAny_bind ?_
  simp only [newExc, newTuple]
  refine wpAny_bind (wpAny_newObj_type ?_ (by size_fits))
  refine wpAny_bind (m := firstArgMember _ _) (wpAny_of_eq (a := Value.none) (by first | rfl | (simp only [firstArgMember]; rfl)) ?_)
  refine wpAny_newObj_type ?_ (by size_fits)
  have ex : Heap.ExtBut it s.heap (s.heap.update it (Obj.mapFields (·.setIfInBounds 0 .none))) := (Heap.SameBut.update ..).extBut
  have g1 := ex x1 o1 hne h1
  refine raiseNew_hot ⟨hh, o1, vs1, Heap.get?_push_of_some _ (Heap.get?_push_of_some _ g1), d1, c1⟩ (Nat.ne_of_lt (Heap.lt_size (Heap.get?_push_of_some _ g1))) (Heap.get?_push_size _ rfl) rfl (by first | (simp; done) | (simp; omega) | (simp only [Array.size_append]; simp; omega)) ?_
  refine wpAny_bind (wpAny_isInstance (T := "StopIteration") (b := true) ⟨_, Heap.get?_update_self _ (Heap.get?_push_size _ rfl) rfl, rfl⟩ isSubtype_stop ?_)
  refine wpAny_pure (hQ _ fun b o hb e => ?_)
  have e2 := Heap.get?_push_of_some { cls := .type "tuple", data := .seq #[] } (ex b o hb e)
  rw [Heap.get?_update_other _ _ (Nat.ne_of_gt (Heap.lt_size e2))]
  exact Heap.get?_push_of_some _ e2
end
theorem Walks.listHot {prog : Program} {w : World} {A : Around} {x1 : Addr} (hh : A.handled = some (.ref x1)) (I ax : Addr) (hne : ax ≠ I) (hx : x1 ≠ I) (items : Array Value) :
    Walks prog w A I [I, ax, x1] [I] items.size (fun i v => items[i]? = some v) (fun i h => (h.IsListIter I ax i ∧ h.IsList ax items) ∧ HotAt A x1 h) where
  sub := fun b hb => by simp at hb; simp [hb]
  frame := fun _ _ _ st hk => ⟨⟨st.1.1.at fun o e => hk I (by simp) o e, st.1.2.at fun o e => hk ax (by simp) o e⟩, let ⟨a, o, vs, b, c, d⟩ := st.2; ⟨a, o, vs, hk x1 (by simp) o b, c, d⟩⟩
  item := fun i s Q E hi st hQ => by
    refine wpAny_pyNext_list_item st.1.1 st.1.2 (x := items[i]) (by simp [hi]) fun h' hit' hs' => ?_
    obtain ⟨a, o, vs, b, c, d⟩ := st.2
    exact hQ _ h' s.toks (by simp [hi]) ⟨⟨hit', st.1.2.extBut hs'.extBut hne⟩, a, o, vs, hs'.extBut x1 o hx b, c, d⟩ fun b o hb e => hs'.extBut b o (fun h => hb (by simp [h])) e
  done := fun s Q E st hQ => pyNext_list_end_hot st.2 st.1.1 st.1.2 (by simp) hx fun h' he' => hQ h' s.toks fun b o hb e => he' b o (fun h => hb (by simp [h])) e
  self := fun _ _ _ _ st hQ => wpAny_pyIter_listiter st.1.1 hQ
theorem cr_anyH {X : Cx} (hc : HotC X) : CallR X (.builtin "any") (rAny X.K) := by
  intro pins s σ H vs us Q I r h
  obtain ⟨a, bs, rfl, hs, q⟩ := h
  obtain ⟨its, rv, hl, _⟩ := I.list hs
  rw [Vals.ref1 r]
  have hb := rv.bls
  obtain ⟨x1, hot⟩ := hc.at I
  have hx1 : x1 < s.heap.objs.size := by obtain ⟨_, o, _, e, _⟩ := hot; exact Heap.lt_size e
  refine call_any_walk (iter_any hl.isList fun s₂ e2 st hne => ?_)
  subst e2
  refine ⟨_, _, _, _, _, _, _, rfl, Walks.listHot (A := X.A.in1) (x1 := x1) hot.1 _ a hne (Nat.ne_of_lt hx1) its.toArray, ⟨st, hot.1, let ⟨o, vs, b, c, d⟩ := hot.2; ⟨o, vs, Heap.get?_push_of_some _ b, c, d⟩⟩, truth_bools hb, fun h' tk hk => ?_⟩
  refine ⟨.bl _, H, I.kept fun b o eo => hk b o (fun hmem => ?_) (Heap.get?_push_of_some _ eo), ?_, q⟩
  · rcases List.mem_cons.mp hmem with e1 | hmem
    · exact absurd (e1 ▸ Heap.lt_size eo) (Nat.lt_irrefl _)
    · cases hmem
  · show Value.bool _ = Value.bool _
    rw [← any_range, hb, List.size_toArray, List.length_map]
end L2
namespace L2
open PySem PySem.Spec PyProof.Rows
theorem hot_suite {X : Cx} {a : Addr} {oe : Obj} {cls : Value} {d : Option Addr} {pn : List (Addr × Obj)} (hz : L2N.Zn cls d oe) (hf : ∃ vs, oe.data = .fields vs) : L2H.HotC (X.suite a ((a, oe) :: pn)) := by
  obtain ⟨vs, hv⟩ := hf
  exact ⟨(a, oe), ⟨rfl, vs, hv, hz.2.2 vs hv⟩, List.mem_cons_self ..⟩
end L2

set_option Elab.async false
set_option linter.all false
set_option maxRecDepth 100000
set_option maxHeartbeats 4000000
namespace HT5
open PySem PySem.Spec PyProof.Rows L2 BR
local macro_rules | `(tactic| walk_at "sq") => `(tactic| first | exact SqL.of (by assumption) | exact SqL.of upd_same | exact SqT.of (by assumption) | exact SqT.of upd_same | assumption | exact Same.seq (by assumption) (by assumption) | exact Same.seq (Same.trans (by assumption) (by assumption)) (by assumption))
local macro_rules | `(tactic| walk_at "len") => `(tactic| (simp only [List.length_append, List.length_map, List.length_cons, List.length_nil, List.length_set, List.length_replicate, List.length_take, List.length_drop, List.length_reverse, List.length_range, dpi_len, dps_len, len_S]; omega))
local macro_rules | `(tactic| walk_at "g1") => `(tactic| first
  | refine ⟨_, rfl, ?_⟩
  | refine ⟨rfl, ?_⟩
  | refine ⟨_, _, rfl, rfl, @id.{0} _ (by first | decide | omega | exact ⟨by decide, by decide⟩ | exact .inr ⟨by decide, by decide⟩ | (show (0 : Int) < _; decide)), ?_⟩
  | refine ⟨_, _, rfl, rfl, ?_⟩
  | refine ⟨_, _, _, _, rfl, rfl, (by walk_at "sq"), (by first | exact atI_last _ _ | (with_reducible exact atI_nat (by assumption))), ?_⟩
  | refine ⟨.inl ⟨rfl, _, (by walk_at "sq")⟩, ?_⟩
  | refine ⟨_, _, rfl, (by first | exact .inl (by walk_at "sq") | exact .inr (by walk_at "sq")), ?_⟩
  | refine ⟨_, rfl, (by first | exact sz5 (by walk_at "len") | exact szS (by omega)), ?_⟩
  | refine ⟨_, _, _, rfl, rfl, (by assumption), sz5l (by walk_at "len"), ?_⟩)
local macro_rules | `(tactic| walk_at "go") => `(tactic| repeat walk_at "g1")

section
variable {P : Program} {w : World} {K : PySem.W.Frag} {mg : Str → Option Value} {base : Heap}
/-- isinstance(error, C), the error held at a, of the class NoFilling -/
def tIsE (T : Txt K mg) (a : Addr) (c : V) : TE := tCB (rIsE K T.c_NoFilling a) (tCons (tVar 2) (tCons (tC c) tNil))
def tSuite (T : Txt K mg) (a : Addr) : TS :=
  tSeq (tAsg (tLst (tCons (tIsE T a (.ref T.c_BadNumber)) (tCons (tIsE T a (.ref T.c_BadPrices)) (tCons (tIsE T a (.ref T.c_BadRow)) tNil)))) (gName 3))
    (tSeq (tDrop (tBM K "list" rAppend (tVar 3) (tCons (tIsE T a (.ref T.c_BadText)) tNil)))
      (tRet (tAndV (tIsE T a (.ref T.c_NoFilling)) (tAndV (tIsE T a (.ty "ValueError")) (tNotV (tCB (rAny K) (tCons (tVar 3) tNil)))))))
def Asked (T : Txt K mg) : Addr → Sp → Prop := fun f sp => (f = T.f_partners.a ∧ sp = spPartners T) ∨ (f = T.f_depths.a ∧ sp = spDepths T)
theorem asked_ok (T : Txt K mg) : ∀ f sp, Asked T f sp → HeldX P w K mg base (L2N.CX P w) 3 f sp := by
  rintro f sp (⟨rfl, rfl⟩ | ⟨rfl, rfl⟩)
  · exact ⟨_, _, okPartners T, T.f_partners.F.kp, T.f_partners.b⟩
  · exact ⟨_, _, okDepths T, T.f_depths.F.kp, T.f_depths.b⟩
def spLawRefused (T : Txt K mg) : Sp := fun vs H Q _ => ∃ (f : Addr) (l : List Nat), vs = [.ref f, S l] ∧ (f = T.f_partners.a ∨ f = T.f_depths.a) ∧ l.length ≤ 90000 ∧ IsRow l ∧ isClosed l = false ∧ ∀ H', Same H H' → Q (.bl true) H'
theorem okLawRefused (T : Txt K mg) : FnOk P w K mg base CX0 4 T.f__law_refused.a T.f__law_refused.fd ["_law_ask", "_law_row"] (spLawRefused T) := by
  refine T.f__law_refused.F.ok scLawRefused (fun vs H Q E h => ?_) (fun cdv A outer s H vs Q E hr h => ?_)
  · obtain ⟨f, l, rfl, _⟩ := h
    rfl
  · obtain ⟨f, l, rfl, hf, hl, hr', hcl, q⟩ := h
    refine ⟨_, pss_cons (L2N.ps_try_as (i := 2) (tb := fun W => tDrop (tCallX 0 (Asked T) (WE W) (tCons (tVar 1) tNil))) (ts := fun a cls d => fun D σ H => (cls = .ref T.c_NoFilling ∧ d = none) ∧ tSuite T a D σ H) (Wout := fun _ _ _ _ => False) rfl rfl scLawRefused.nd rfl rfl ⟨rfl, by decide, .inl T.g_BracketError⟩ takes0N
        (fun W pn xe tk _ => pss_one (ps_expr (by exact (pe_callX (asked_ok T) (hr.mono (by decide)) rfl (.inl rfl) (fun σ => L2N.passAt tk σ) (by exact (pa_cons (pv 1) pa_nil))))))
        (fun a oe cls d pn hz hf' => pss_if fun ⟨e1, e2⟩ => by
          subst e1 e2
          exact (pss_cons (ps_set (i := 3) scLawRefused.nd rfl (by first | exact Or.inl rfl | exact Or.inr rfl) (pe_lst (pa_cons (pe_callB (call_isE T.e_NoFilling (L2N.Zn.zc hz) hf') (by rfl) T.n_isinstance (by decide +kernel) (pa_cons (pv 2) (pa_cons (pe_glob (v := .ref T.c_BadNumber) (by rfl) T.g_BadNumber rfl) pa_nil))) (pa_cons (pe_callB (call_isE T.e_NoFilling (L2N.Zn.zc hz) hf') (by rfl) T.n_isinstance (by decide +kernel) (pa_cons (pv 2) (pa_cons (pe_glob (v := .ref T.c_BadPrices) (by rfl) T.g_BadPrices rfl) pa_nil))) (pa_cons (pe_callB (call_isE T.e_NoFilling (L2N.Zn.zc hz) hf') (by rfl) T.n_isinstance (by decide +kernel) (pa_cons (pv 2) (pa_cons (pe_glob (v := .ref T.c_BadRow) (by rfl) T.g_BadRow rfl) pa_nil))) pa_nil)))))
      (pss_cons (ps_expr (pe_bm PySem.F.plainAttrs_list PySem.F.slot_list_append PySem.F.type_list_append mt_append (pv 3) (pa_cons (pe_callB (call_isE T.e_NoFilling (L2N.Zn.zc hz) hf') (by rfl) T.n_isinstance (by decide +kernel) (pa_cons (pv 2) (pa_cons (pe_glob (v := .ref T.c_BadText) (by rfl) T.g_BadText rfl) pa_nil))) pa_nil)))
      (pss_one (ps_ret (pe_and (pe_callB (call_isE T.e_NoFilling (L2N.Zn.zc hz) hf') (by rfl) T.n_isinstance (by decide +kernel) (pa_cons (pv 2) (pa_cons (pe_glob (v := .ref T.c_NoFilling) (by rfl) T.g_NoFilling rfl) pa_nil))) (pe_and (pe_callB (call_isE T.e_NoFilling (L2N.Zn.zc hz) hf') (by rfl) T.n_isinstance (by decide +kernel) (pa_cons (pv 2) (pa_cons (pe_bltn (v := .ty "ValueError") (by rfl) T.n_ValueError (by decide +kernel) rfl) pa_nil))) (pe_one (pe_not (pe_callB (cr_anyH (hot_suite hz hf')) (by rfl) T.n_any (by decide +kernel) (pa_cons (pv 3) pa_nil))))))))))))
      (pss_one (ps_ret pe_bl)), ?_⟩
    have key : ∀ (D : Ends) (H1 : Hp), Same H H1 → D.rt = Q → WE (wAs K (.ref T.c_BracketError) 2 (fun a cls d => fun D σ H => (cls = .ref T.c_NoFilling ∧ d = none) ∧ tSuite T a D σ H) (fun _ _ _ _ => False) D) [some (.ref f), some (S l), none, none] (.ref T.c_NoFilling) none H1 := by
      intro D H1 sm hD
      refine ⟨true, T.s_NoFilling, fun _ a na => ⟨⟨rfl, rfl⟩, ?_⟩, fun z => by cases z⟩
      refine ⟨_, rfl, _, _, false, rfl, fun _ r => r, T.i_NoFilling_BadNumber, ?_⟩
      refine ⟨_, rfl, _, _, false, rfl, fun _ r => r, T.i_NoFilling_BadPrices, ?_⟩
      refine ⟨_, rfl, _, _, false, rfl, fun _ r => r, T.i_NoFilling_BadRow, ?_⟩
      refine ⟨sz5 (by decide), fun o no => ?_⟩
      refine ⟨_, rfl, .inl ⟨rfl, _, SqL.of upd_same⟩, ?_⟩
      refine ⟨_, rfl, _, _, false, rfl, fun _ r => r, T.i_NoFilling_BadText, ?_⟩
      refine ⟨_, _, _, rfl, rfl, upd_same, sz5l (by decide), ?_⟩
      refine ⟨_, rfl, _, _, true, rfl, fun _ r => r, T.i_NoFilling_NoFilling, true, rfl, iteT ?_⟩
      refine ⟨_, rfl, _, _, true, rfl, fun _ r => r, T.i_NoFilling_ValueError, true, rfl, iteT ?_⟩
      refine ⟨_, rfl, o, [false, false, false, false], rfl, SqL.of upd_same, _, rfl, ?_⟩
      show D.rt (.bl true) _
      rw [hD]
      exact q _ ((sm.mut (sm.free no)).mut (sm.free no))
    rcases hf with rfl | rfl
    · refine ⟨_, _, rfl, .inl ⟨rfl, rfl⟩, _, rfl, _, rfl, .inl ⟨l, rfl, hl, fun h => absurd hr' h, fun _ _ H1 sm => key _ H1 sm rfl, fun _ h => ?_⟩⟩
      rw [hcl] at h; cases h
    · refine ⟨_, _, rfl, .inr ⟨rfl, rfl⟩, _, rfl, _, rfl, .inl ⟨l, rfl, hl, fun h => absurd hr' h, fun _ _ H1 sm => key _ H1 sm rfl, fun _ h => ?_⟩⟩
      rw [hcl] at h; cases h
end
end HT5

set_option Elab.async false
set_option linter.all false
set_option maxRecDepth 100000
set_option maxHeartbeats 4000000
/-! More readings. -/
namespace L2
open PySem PySem.Spec PyProof.Rows
section
variable {X : Cx}
/-- a statement, then the rest, with a word between them -/
def tCut2 (t u : TS) : TS := fun D σ H => ∃ Mid : St → Hp → Prop, t { D with nx := Mid } σ H ∧ ∀ σ' H', Mid σ' H' → u D σ' H'
theorem pss_cut2 {st : Stmt} {rest : List Stmt} {t u : TS} (h1 : PS X st t) (h2 : PSs X rest u) : PSs X (st :: rest) (tCut2 t u) := by
  refine ⟨fun pins s σ H D I h => ?_⟩
  obtain ⟨Mid, hm, hu⟩ := h
  refine wpAny_execs_cons (thn (h1.run pins s σ H { D with nx := Mid } I hm) fun f s1 q => ?_)
  cases f with
  | next =>
    obtain ⟨σ', H', I', q⟩ := q
    exact h2.run pins s1 σ' H' D I' (hu σ' H' q)
  | ret v => exact q
  | brk => exact q
  | cont => exact q
end
section
variable {te : TE} {i : Nat} {rest : TS} {D : Ends} {σ : St} {H : Hp} {Q : VK} {t tr : TA} {v : V} {Qa : List V → Hp → Prop}
theorem sq_asg (h : te σ H fun x H1 => rest D (σ.set i (some x)) H1) : tSeq (tAsg te (gName i)) rest D σ H := h
theorem lst_in (h : t σ H fun xs H1 => xs.length ≤ sizeLine ∧ ∀ p, H1 p = none → Q (.ref p) (upd H1 p (.lst xs))) : tLst t σ H Q := h
theorem tup_in (h : t σ H fun xs H1 => xs.length ≤ sizeLine ∧ ∀ p, H1 p = none → Q (.ref p) (upd H1 p (.tup xs))) : tTup t σ H Q := h
theorem cons_val (v : V) (h : ∀ Q : VK, Q v H → te σ H Q) (k : tr σ H fun xs H2 => Qa (v :: xs) H2) : tCons te tr σ H Qa := h _ k
theorem nx_in {t : TS} (h : t D σ H) : tSeq Ends.nx t D σ H := h
theorem nil_val (k : Qa [] H) : tNil σ H Qa := k
end
/-! ### a written dict of brackets -/
theorem ne_oc : (Sum.inr (Str.ofString "(") : Key) ≠ Sum.inr (Str.ofString ")") := by
  intro h
  have h := Sum.inr.inj h
  rw [lit_op, lit_cl] at h
  exact absurd h (by decide)
theorem oc_val {va vb : V} {c : Nat} : valV (mergeK [] [((Sum.inr (Str.ofString "(") : Key), va), (Sum.inr (Str.ofString ")"), vb)]) (Sum.inr ⟨#[c]⟩ : Key) = if c = 40 then some va else if c = 41 then some vb else none := by
  show valV (putK (putK [] (Sum.inr (Str.ofString "(") : Key) va) (Sum.inr (Str.ofString ")") : Key) vb) (Sum.inr ⟨#[c]⟩ : Key) = _
  rw [valV_put, valV_put, valV_nil, lit_op, lit_cl]
  have e : ∀ a b : Nat, ((Sum.inr (⟨#[a]⟩ : Str) : Key) = Sum.inr ⟨#[b]⟩) = (a = b) := fun a b => propext ⟨fun h => by
    have := Sum.inr.inj h
    simpa using this, fun h => by rw [h]⟩
  show (if (Sum.inr (⟨#[c]⟩ : Str) : Key) = Sum.inr ⟨#[41]⟩ then some vb else if (Sum.inr (⟨#[c]⟩ : Str) : Key) = Sum.inr ⟨#[40]⟩ then some va else none) = _
  by_cases h1 : c = 40
  · subst h1
    rw [if_neg (by rw [e]; decide), if_pos rfl, if_pos rfl]
  · by_cases h2 : c = 41
    · subst h2
      rw [if_pos rfl, if_neg h1, if_pos rfl]
    · rw [if_neg (by rw [e]; exact h2), if_neg (by rw [e]; exact h1), if_neg h1, if_neg h2]
section
variable {σ : St} {H : Hp} {Q : VK} {ta tb ty tx : TE} {va vb z : V} {c : Nat}
abbrev tOC (ta tb : TE) : TE := tDisp [(tC (.str (Str.ofString "(")), ta), (tC (.str (Str.ofString ")")), tb)]
theorem rd_oc0 (h1 : ∀ H Q, Q va H → ta σ H Q) (h2 : ∀ H Q, Q vb H → tb σ H Q)
    (q : ∀ p H', Same H H' → H p = none → H' p = some (.dK (mergeK [] [((Sum.inr (Str.ofString "(") : Key), va), (Sum.inr (Str.ofString ")"), vb)])) → Q (.ref p) H') : tOC ta tb σ H Q := by
  refine fun p np => h1 _ _ (h2 _ _ ⟨upd_same, [((Sum.inr (Str.ofString "(") : Key), va), (Sum.inr (Str.ofString ")"), vb)], rfl, by show 2 ≤ 15; decide, ?_⟩)
  refine q p _ ?_ np upd_same
  exact (Same.new np).mut np
/-- {'(': a, ')': b}[sign] -/
theorem rd_oc (h1 : ∀ H Q, Q va H → ta σ H Q) (h2 : ∀ H Q, Q vb H → tb σ H Q) (hy : ∀ H Q, Q (ch c) H → ty σ H Q) (hc : c = 40 ∨ c = 41)
    (q : ∀ H', Same H H' → Q (if c = 40 then va else vb) H') : tDGet (tOC ta tb) ty σ H Q := by
  refine rd_oc0 (Q := fun x H1 => ty σ H1 fun y H2 => ∃ a v, x = .ref a ∧ DGet H2 a y (some v) ∧ Q v H2) h1 h2 fun p H' sm np hp => hy _ _ ⟨p, _, rfl, ?_, q H' sm⟩
  have e := DGet.k (k := Sum.inr ⟨#[c]⟩) hp
  rw [oc_val] at e
  rcases hc with h | h
  · subst h; exact e
  · subst h; exact e
/-- {'(': a, ')': b}.get(sign, z) -/
theorem rd_oc2 (h1 : ∀ H Q, Q va H → ta σ H Q) (h2 : ∀ H Q, Q vb H → tb σ H Q) (hy : ∀ H Q, Q (ch c) H → ty σ H Q) (hx : ∀ H' Q, Same H H' → Q z H' → tx σ H' Q)
    (q : ∀ H', Same H H' → Q (if c = 40 then va else if c = 41 then vb else z) H') : tDGet2 (tOC ta tb) ty tx σ H Q := by
  refine rd_oc0 (Q := fun x H1 => ∃ a, x = .ref a ∧ IsD H1 a ∧ ty σ H1 fun y H2 => tx σ H2 fun z H3 => ∃ o, DGet H3 a y o ∧ Q (o.getD z) H3) h1 h2 fun p H' sm np hp => ⟨p, rfl, .inl ⟨_, .inl hp⟩, hy _ _ (hx _ _ sm ⟨_, DGet.k (k := Sum.inr ⟨#[c]⟩) hp, ?_⟩)⟩
  rw [oc_val]
  have := q H' sm
  by_cases h1 : c = 40
  · rw [if_pos h1] at this ⊢; exact this
  · by_cases h2 : c = 41
    · rw [if_neg h1, if_pos h2] at this ⊢; exact this
    · rw [if_neg h1, if_neg h2] at this ⊢; exact this
end
/-! ### lists of ints as data -/
theorem eqvAll_ints : ∀ a b : List Int, PyData.eqvAll (a.map PyData.int) (b.map PyData.int) = decide (a = b)
  | [], [] => rfl
  | [], _ :: _ => rfl
  | _ :: _, [] => rfl
  | x :: a, y :: b => by
    show (PyData.eqv (.int x) (.int y) && PyData.eqvAll (a.map PyData.int) (b.map PyData.int)) = _
    rw [eqvAll_ints a b]
    show ((x == y) && _) = _
    by_cases h : x = y
    · subst h; simp
    · simp [h]
theorem canLay_ints : ∀ a : List Int, PyData.canLayAll0 (a.map PyData.int) = true
  | [] => rfl
  | x :: a => by
    show (PyData.canLay0 (.int x) && PyData.canLayAll0 (a.map PyData.int)) = true
    rw [canLay_ints a]; rfl
theorem depth_ints : ∀ a : List Int, PyData.depthAll (a.map PyData.int) = 0
  | [] => rfl
  | x :: a => by
    show max (PyData.depth (.int x)) (PyData.depthAll (a.map PyData.int)) = 0
    rw [depth_ints a]; rfl
theorem shaped_ints (a : List Int) : SeqAt.shaped (.list (a.map PyData.int)) = true := by
  unfold SeqAt.shaped
  have h1 : PyData.canLay0 (.list (a.map PyData.int)) = true := canLay_ints a
  have h2 : PyData.depth (.list (a.map PyData.int)) = 1 := by
    show PyData.depthAll (a.map PyData.int) + 1 = 1
    rw [depth_ints]
  rw [h1, h2]; rfl
theorem dp_ints {K : PySem.W.Frag} {H : Hp} : ∀ a : List Int, DpAll K H (a.map V.int) (a.map PyData.int)
  | [] => .nil
  | x :: a => .cons (.int x) (dp_ints a)
theorem rd_neL {K : PySem.W.Frag} {H : Hp} {Q : VK} {p q : Addr} {a b : List Int} (h1 : SqL K H p (a.map V.int)) (h2 : SqL K H q (b.map V.int)) (k : Q (.bl (!decide (a = b))) H) : rNeD K (.ref p) (.ref q) H Q := by
  refine ⟨_, _, .lst h1 (dp_ints a), .lst h2 (dp_ints b), shaped_ints a, shaped_ints b, ?_⟩
  have e : PyData.eqv (.list (a.map PyData.int)) (.list (b.map PyData.int)) = decide (a = b) := by
    rw [PyData.eqv]; exact eqvAll_ints a b
  rw [e]
  exact k
/-! ### isinstance of plain things -/
theorem isi_int {K : PySem.W.Frag} {H : Hp} {Q : VK} {i : Int} {n : String} {b : Bool} (hk : kitB "int" n = some b) (q : Q (.bl b) H) : rIsi K [.int i, .ty n] H Q := ⟨_, _, _, _, b, rfl, .ty n, .base (.int i), kit_ty hk, q⟩
theorem isi_bl {K : PySem.W.Frag} {H : Hp} {Q : VK} {i : Bool} {n : String} {b : Bool} (hk : kitB "bool" n = some b) (q : Q (.bl b) H) : rIsi K [.bl i, .ty n] H Q := ⟨_, _, _, _, b, rfl, .ty n, .base (.bl i), kit_ty hk, q⟩
theorem isi_str {K : PySem.W.Frag} {H : Hp} {Q : VK} {i : Str} {n : String} {b : Bool} (hk : kitB "str" n = some b) (q : Q (.bl b) H) : rIsi K [.str i, .ty n] H Q := ⟨_, _, _, _, b, rfl, .ty n, .base (.str i), kit_ty hk, q⟩
theorem isi_lst {K : PySem.W.Frag} {H : Hp} {Q : VK} {p : Addr} {xs : List V} {n : String} {b : Bool} (h : H p = some (.lst xs)) (hk : kitB "list" n = some b) (q : Q (.bl b) H) : rIsi K [.ref p, .ty n] H Q := ⟨_, _, _, _, b, rfl, .ty n, .base (.lst h), kit_ty hk, q⟩
end L2

set_option linter.all false
namespace BR
theorem fin_add : ∀ (l : List Nat) (d : Int), fin d l = d + fin 0 l
  | [], d => by show d = d + 0; omega
  | c :: r, d => by
    rw [fin_cons, fin_cons, fin_add r (dst d c), fin_add r (dst 0 c)]
    unfold dst
    split <;> omega
theorem fin_three (a b : List Nat) (c : Nat) : fin 0 (a ++ [c] ++ b) = fin 0 a + dst 0 c + fin 0 b := by
  rw [fin_app, fin_app, fin_add b, fin_add [c]]
  rfl
theorem run_even : ∀ (l : List Nat) (d e : Nat), run d l = some e → (d + l.length + e) % 2 = 0
  | [], d, e, h => by
    have : d = e := Option.some.inj h
    subst this
    simp; omega
  | c :: r, d, e, h => by
    by_cases h1 : c = 40
    · subst h1
      have := run_even r _ _ h
      simp only [List.length_cons]; omega
    · by_cases h2 : c = 41
      · subst h2
        cases d with
        | zero => cases h
        | succ k =>
          have := run_even r _ _ h
          simp only [List.length_cons]; omega
      · rw [run_no h1 h2] at h; cases h
theorem notClosed {l : List Nat} (hr : IsRow l) (h : run 0 l ≠ some 0) : isClosed l = false := by
  cases e : isClosed l with
  | false => rfl
  | true => exact absurd ((isClosed_iff l hr).mp e) h
theorem IsRow.append {a b : List Nat} (ha : IsRow a) (hb : IsRow b) : IsRow (a ++ b) := fun c hc => (List.mem_append.mp hc).elim (ha c) (hb c)
theorem IsRow.take {a : List Nat} (ha : IsRow a) (n : Nat) : IsRow (a.take n) := fun c hc => ha c (List.mem_of_mem_take hc)
theorem IsRow.drop {a : List Nat} (ha : IsRow a) (n : Nat) : IsRow (a.drop n) := fun c hc => ha c (List.mem_of_mem_drop hc)
theorem IsRow.one {c : Nat} (h : c = 40 ∨ c = 41 ∨ c = 63) : IsRow [c] := fun x hx => by
  have : x = c := by simpa using hx
  rw [this]; exact h
/-- one sign turned -/
theorem not_turned {l : List Nat} (h : run 0 l = some 0) {n c : Nat} (hc : l[n]? = some c) : isClosed (l.take n ++ [if c = 40 then 41 else 40] ++ l.drop (n + 1)) = false := by
  have hr := (run_br l 0 0 h).row
  refine notClosed (((hr.take n).append (.one (by split <;> simp))).append (hr.drop _)) fun q => ?_
  have e1 : fin 0 _ = 0 := run_fin _ 0 0 q
  have e2 : fin 0 _ = 0 := run_fin _ 0 0 h
  have hn := (List.getElem?_eq_some_iff.mp hc).1
  have el : l = l.take n ++ [c] ++ l.drop (n + 1) := by
    have e : l[n] = c := (List.getElem?_eq_some_iff.mp hc).2
    rw [List.append_assoc, List.singleton_append, ← e, ← List.drop_eq_getElem_cons hn, List.take_append_drop]
  rw [el] at e2
  rw [fin_three] at e1 e2
  unfold dst at e1 e2
  rcases run_br l 0 0 h c (List.mem_of_getElem? hc) with k | k
  · subst k; simp at e1 e2; omega
  · subst k; simp at e1 e2; omega
theorem not_rubbed (a b : List Nat) : isClosed (a ++ [63] ++ b) = false := by
  unfold isClosed
  have : decide (63 ∉ a ++ [63] ++ b) = false := by simp
  rw [this]; rfl
theorem not_tail {l : List Nat} (h : run 0 l = some 0) (hne : l ≠ []) : isClosed (l.drop 1) = false := by
  have hr := (run_br l 0 0 h).row
  refine notClosed (hr.drop 1) fun q => ?_
  have e1 := run_even _ _ _ q
  have e2 := run_even _ _ _ h
  have : 0 < l.length := List.length_pos_iff.mpr hne
  rw [List.length_drop] at e1
  omega
theorem not_wrong {l : List Nat} (hr : IsRow l) : isClosed ([41, 40] ++ l) = false :=
  notClosed (IsRow.append (fun c hc => by simp at hc; rcases hc with h | h <;> simp [h]) hr) fun q => by cases q
theorem run_two {a b : List Nat} (ha : run 0 a = some 0) (hb : run 0 b = some 0) : run 0 (a ++ b) = some 0 := by
  rw [run_app, ha]; exact hb
theorem run_eight {a : List Nat} (ha : run 0 a = some 0) : run 0 ([40, 40, 40, 40, 40, 40, 40, 40] ++ a ++ [41, 41, 41, 41, 41, 41, 41, 41]) = some 0 := by
  rw [run_app, run_app]
  have e : run 0 [40, 40, 40, 40, 40, 40, 40, 40] = some 8 := rfl
  have h := run_add a 0 0 8 ha
  rw [e]
  show ((run 8 a).bind _) = _
  rw [show (8 : Nat) = 0 + 8 from rfl, h]
  rfl
end BR

set_option Elab.async false
set_option linter.all false
set_option maxRecDepth 100000
set_option maxHeartbeats 4000000
namespace HT5
open PySem PySem.Spec PyProof.Rows L2 BR
local macro_rules | `(tactic| walk_at "sq") => `(tactic| first | exact SqL.of (by assumption) | exact SqL.of upd_same | exact SqT.of (by assumption) | exact SqT.of upd_same | assumption | exact Same.seq (by assumption) (by assumption) | exact Same.seq (Same.trans (by assumption) (by assumption)) (by assumption))
local macro_rules | `(tactic| walk_at "len") => `(tactic| (simp only [List.length_append, List.length_map, List.length_cons, List.length_nil, List.length_set, List.length_replicate, List.length_take, List.length_drop, List.length_reverse, List.length_range, dpi_len, dps_len, len_S]; omega))
local macro_rules | `(tactic| walk_at "g1") => `(tactic| first
  | refine ⟨_, rfl, ?_⟩
  | refine ⟨rfl, ?_⟩
  | refine ⟨_, _, rfl, rfl, @id.{0} _ (by first | decide | omega | exact ⟨by decide, by decide⟩ | exact .inr ⟨by decide, by decide⟩ | (show (0 : Int) < _; decide)), ?_⟩
  | refine ⟨_, _, rfl, rfl, ?_⟩
  | refine ⟨_, _, _, _, rfl, rfl, (by walk_at "sq"), (by first | exact atI_last _ _ | (with_reducible exact atI_nat (by assumption))), ?_⟩
  | refine ⟨.inl ⟨rfl, _, (by walk_at "sq")⟩, ?_⟩
  | refine ⟨_, _, rfl, (by first | exact .inl (by walk_at "sq") | exact .inr (by walk_at "sq")), ?_⟩
  | refine ⟨_, rfl, (by first | exact sz5 (by walk_at "len") | exact szS (by omega)), ?_⟩
  | refine ⟨_, _, _, rfl, rfl, (by assumption), sz5l (by walk_at "len"), ?_⟩)
local macro_rules | `(tactic| walk_at "go") => `(tactic| repeat walk_at "g1")

section
variable {P : Program} {w : World} {K : PySem.W.Frag} {mg : Str → Option Value} {base : Heap}
theorem lit_8o : (Str.ofString "((((((((") = St_ [40, 40, 40, 40, 40, 40, 40, 40] := by decide +kernel
theorem lit_8c : (Str.ofString "))))))))") = St_ [41, 41, 41, 41, 41, 41, 41, 41] := by decide +kernel
def spLaw (T : Txt K mg) : Sp := fun vs H Q _ => ∃ (a : Addr) (ns : List Int), vs = [.ref a] ∧ SqL K H a (ns.map V.int) ∧ ns.length ≤ 63 ∧ ∀ H', Q (.bl true) H'
theorem okLaw (T : Txt K mg) {fa : Addr} {fd : FuncData} (F : Fun K "law" "law" sLaw fa fd) : FnOk P w K mg base CX0 5 fa fd ["_law_script"] (spLaw T) := by
  refine F.ok scLaw (fun vs H Q E h => ?_) (fun cdv A outer s H vs Q E hr h => ?_)
  · obtain ⟨a, ns, rfl, _⟩ := h
    rfl
  · obtain ⟨a, ns, rfl, hS, hlen, q⟩ := h
    refine ⟨_, (pss_cons (ps_set (i := 1) scLaw.nd rfl (by first | exact Or.inl rfl | exact Or.inr rfl) (pe_call (okLawClosedRow T) (hr.mono (by decide)) (by rfl) T.f__law_closed_row.g T.f__law_closed_row.F.kp T.f__law_closed_row.b .nil pass0 (pa_cons (pv 0) pa_nil)))
      (pss_cut2 (ps_if (pt_cmpR op_eq (pe_op op_mod (pe_callB (cr_sum rfl) (by rfl) T.n_sum (by decide +kernel) (pa_cons (pv 0) pa_nil)) pe_int) pe_int (nomark _)) (pss_one (ps_set (i := 1) scLaw.nd rfl (by first | exact Or.inl rfl | exact Or.inr rfl) (pe_ifExp (pt_cmpR op_eq (pe_op op_mod (pe_op op_fdiv (pe_callB (cr_sum rfl) (by rfl) T.n_sum (by decide +kernel) (pa_cons (pv 0) pa_nil)) pe_int) pe_int) pe_int (nomark _)) (pe_op op_mulS (pv 1) pe_int) (pe_op op_add_str (pe_op op_add_str (pe_op op_add_str pe_str (pv 1)) pe_str) (pv 1)))))
      pss_nil)
      (pss_cons (ps_set (i := 2) scLaw.nd rfl (by first | exact Or.inl rfl | exact Or.inr rfl) (pe_lst (pa_cons pe_int pa_nil)))
      (pss_cons (ps_for PassesOwn.never rfl (pi_str (pv 1)) (pg_name (i := 3) scLaw.nd rfl (by first | exact Or.inl rfl | exact Or.inr rfl))
      (pss_one (ps_expr (pe_bm PySem.F.plainAttrs_list PySem.F.slot_list_append PySem.F.type_list_append mt_append (pv 2) (pa_cons (pe_op op_add (pe_ix ix_list (pv 2) (pe_un un_neg pe_int) (fun _ _ => rfl)) (pe_dget (hu_of hr) (pe_disp (pps_cons pe_str pe_int (pps_cons pe_str (pe_un un_neg pe_int) pps_nil)) (by rfl) (by rfl) (fun z => by cases z) (by decide)) (pv 3) (fun _ _ => rfl))) pa_nil)))))
      (pss_cons (ps_for PassesOwn.never rfl (pi_range1 (by rfl) T.n_range (pa_cons pe_int pa_nil)) (pg_name (i := 4) scLaw.nd rfl (by first | exact Or.inl rfl | exact Or.inr rfl))
      (pss_cons (ps_set (i := 5) scLaw.nd rfl (by first | exact Or.inl rfl | exact Or.inr rfl) (pe_call (okPartners T) (hr.mono (by decide)) (by rfl) T.f_partners.g T.f_partners.F.kp T.f_partners.b .nil passLN (pa_cons (pv 1) pa_nil)))
      (pss_cons (ps_if (PW.pt (pw_or (pt_not (pt_val (pe_callB call_isi (by rfl) T.n_isinstance (by decide +kernel) (pa_cons (pv 5) (pa_cons (pe_bltn (v := .ty "list") (by rfl) T.n_list (by decide +kernel) rfl) pa_nil))))) (pw_or1 (pt_cmpR op_ne (pe_callB call_len_seq (by rfl) T.n_len PySem.boot_len (pa_cons (pv 5) pa_nil)) (pe_callB call_len_str (by rfl) T.n_len PySem.boot_len (pa_cons (pv 1) pa_nil)) (nomark _))))) (pss_one (ps_ret pe_bl))
      pss_nil)
      (pss_cons (ps_for PassesOwn.never rfl (pi_enumS (by rfl) T.n_enumerate (pa_cons (pv 1) pa_nil)) (pg_tup rfl (pgs_cons (pg_name (i := 6) scLaw.nd rfl (by first | exact Or.inl rfl | exact Or.inr rfl)) (pgs_cons (pg_name (i := 3) scLaw.nd rfl (by first | exact Or.inl rfl | exact Or.inr rfl)) pgs_nil)))
      (pss_cut2 (ps_if (PW.pt (pw_or (pt_val (pe_callB call_isi (by rfl) T.n_isinstance (by decide +kernel) (pa_cons (pe_ix ix_list (pv 5) (pv 6) (fun _ _ => rfl)) (pa_cons (pe_bltn (v := .ty "bool") (by rfl) T.n_bool (by decide +kernel) rfl) pa_nil)))) (pw_or1 (PW.pt (pw_and (pt_cmpR op_eq (pv 3) pe_str (nomark _)) (pw_and1 (pt_cmpR op_ne (pe_ix ix_list (pv 5) (pv 6) (fun _ _ => rfl)) (pe_call (okLawPartner T) (hr.mono (by decide)) (by rfl) T.f__law_partner.g T.f__law_partner.F.kp T.f__law_partner.b .nil pass0 (pa_cons (pv 1) (pa_cons (pv 6) pa_nil))) (nomark _)))))))) (pss_one (ps_ret pe_bl))
      pss_nil)
      (pss_one (ps_if (PW.pt (pw_or (pt_not (pt_chain op_le op_lt pe_int (pe_ix ix_list (pv 5) (pv 6) (fun _ _ => rfl)) (pe_callB call_len_str (by rfl) T.n_len PySem.boot_len (pa_cons (pv 1) pa_nil)))) (pw_or1 (pt_cmpR op_ne (pe_ix ix_list (pv 5) (pe_ix ix_list (pv 5) (pv 6) (fun _ _ => rfl)) (fun _ _ => rfl)) (pv 6) (nomark _))))) (pss_one (ps_ret pe_bl))
      pss_nil))))
      (pss_cons (ps_expr (pe_bm PySem.F.plainAttrs_list PySem.F.slot_list_append PySem.F.type_list_append mt_append (pv 5) (pa_cons pe_int pa_nil)))
      (pss_cons (ps_set (i := 5) scLaw.nd rfl (by first | exact Or.inl rfl | exact Or.inr rfl) (pe_call (okDepths T) (hr.mono (by decide)) (by rfl) T.f_depths.g T.f_depths.F.kp T.f_depths.b .nil passLN (pa_cons (pv 1) pa_nil)))
      (pss_cons (ps_if (PW.pt (pw_or (pt_not (pt_val (pe_callB call_isi (by rfl) T.n_isinstance (by decide +kernel) (pa_cons (pv 5) (pa_cons (pe_bltn (v := .ty "list") (by rfl) T.n_list (by decide +kernel) rfl) pa_nil))))) (pw_or (pt_cmpR (op_neD hr.units) (pv 5) (pv 2) (nomark _)) (pw_or1 (pt_val (pe_callB (cr_any rfl) (by rfl) T.n_any (by decide +kernel) (pa_cons (pe_lc (own := [("_law_one", 7)]) rfl scLaw.nd (pi_list (pv 5)) (blkOk_by (own := [("_law_one", 7)]) (N := ["_law_script", "_law_row", "_law_due", "_law_sign", "_law_again", "_law_found", "_law_place", "_law_one", "_law_at", "_law_turned", "_law_others", "_law_other"]) (sc := defScope sLaw) (by decide +kernel)) (fun _ _ _ _ _ => (pg_name (i := 7) scLaw.nd rfl (by first | exact Or.inl rfl | exact Or.inr rfl))) (fun _ _ _ _ _ => pts_nil) (fun _ _ _ _ _ => (pe_callB (r := rIsi K) call_isi (by rfl) T.n_isinstance (by decide +kernel) (pa_cons (pv 7) (pa_cons (pe_bltn (v := .ty "bool") (by rfl) T.n_bool (by decide +kernel) rfl) pa_nil))))) pa_nil))))))) (pss_one (ps_ret pe_bl))
      pss_nil)
      (pss_one (ps_expr (pe_bm PySem.F.plainAttrs_list PySem.F.slot_list_append PySem.F.type_list_append mt_append (pv 5) (pa_cons pe_int pa_nil)))))))))))
      (pss_cons (ps_if (pt_cmpR op_eq (pv 1) pe_str (nomark _)) (pss_one (ps_ret pe_bl))
      pss_nil)
      (pss_cons (ps_set (i := 8) scLaw.nd rfl (by first | exact Or.inl rfl | exact Or.inr rfl) (pe_op op_mod (pe_callB (cr_sum rfl) (by rfl) T.n_sum (by decide +kernel) (pa_cons (pv 0) pa_nil)) (pe_callB call_len_str (by rfl) T.n_len PySem.boot_len (pa_cons (pv 1) pa_nil))))
      (pss_cons (ps_set (i := 9) scLaw.nd rfl (by first | exact Or.inl rfl | exact Or.inr rfl) (pe_dget (hu_of hr) (pe_disp (pps_cons pe_str pe_str (pps_cons pe_str pe_str pps_nil)) (by rfl) (by rfl) (fun z => by cases z) (by decide)) (pe_ix ix_str (pv 1) (pv 8) (fun _ _ => rfl)) (fun _ _ => rfl)))
      (pss_cons (ps_set (i := 10) scLaw.nd rfl (by first | exact Or.inl rfl | exact Or.inr rfl) (pe_lst (pa_cons (pe_op op_add_str (pe_op op_add_str (pe_slice sl_str (pv 1) po_none (po_some (pv 8))) (pv 9)) (pe_slice sl_str (pv 1) (po_some (pe_op op_add (pv 8) pe_int)) po_none)) (pa_cons (pe_op op_add_str (pe_op op_add_str (pe_slice sl_str (pv 1) po_none (po_some (pv 8))) pe_str) (pe_slice sl_str (pv 1) (po_some (pe_op op_add (pv 8) pe_int)) po_none)) (pa_cons (pe_slice sl_str (pv 1) (po_some pe_int) po_none) (pa_cons (pe_op op_add_str pe_str (pv 1)) pa_nil))))))
      (pss_one (ps_ret (pe_callB (cr_all rfl) (by rfl) T.n_all (by decide +kernel) (pa_cons (pe_lc (own := [("_law_other", 11)]) rfl scLaw.nd (pi_list (pv 10)) (blkOk_by (own := [("_law_other", 11)]) (N := ["_law_script", "_law_row", "_law_due", "_law_sign", "_law_again", "_law_found", "_law_place", "_law_one", "_law_at", "_law_turned", "_law_others", "_law_other"]) (sc := defScope sLaw) (by decide +kernel)) (fun _ _ _ _ _ => (pg_name (i := 11) scLaw.nd rfl (by first | exact Or.inl rfl | exact Or.inr rfl))) (fun _ _ _ _ _ => pts_nil) (fun _ _ _ _ _ => (pe_and (pe_call (okLawRefused T) (hr.mono (by decide)) (by rfl) T.f__law_refused.g T.f__law_refused.F.kp T.f__law_refused.b .nil pass0 (pa_cons (pe_glob (v := .ref T.f_partners.a) (by rfl) T.f_partners.g rfl) (pa_cons (pv 11) pa_nil))) (pe_one (pe_call (okLawRefused T) (hr.mono (by decide)) (by rfl) T.f__law_refused.g T.f__law_refused.F.kp T.f__law_refused.b .nil pass0 (pa_cons (pe_glob (v := .ref T.f_depths.a) (by rfl) T.f_depths.g rfl) (pa_cons (pv 11) pa_nil))))))) pa_nil))))))))))))), ?_⟩
    refine ⟨_, rfl, a, ns, rfl, hS, hlen, fun H1 l1 hl1 hz1 s1 => ?_⟩
    have hS1 := s1.seq hS
    refine ⟨fun σ H2 => ∃ l, σ = [some (.ref a), some (S l), none, none, none, none, none, none, none, none, none, none] ∧ H2 = H1 ∧ run 0 l = some 0 ∧ l.length ≤ 400, ?_, ?_⟩
    · refine ⟨_, rfl, a, ns, rfl, hS1, ?_⟩
      walk_at "go"
      refine ite2 (fun _ => ?_) (fun _ => ⟨l1, rfl, rfl, hl1, by omega⟩)
      by_cases hc : ns.sum / 7 % 2 = 0
      · refine s_set (S (l1 ++ l1)) (fun Q q => ?_) ⟨l1 ++ l1, rfl, rfl, run_two hl1 hl1, by walk_at "len"⟩
        refine ⟨_, rfl, a, ns, rfl, hS1, ?_⟩
        walk_at "go"
        rw [d_int, decide_eq_true hc]
        refine iteT ⟨_, rfl, St_ l1, 2, rfl, rfl, mulOk_S l1 2 (by omega) (by omega), ?_⟩
        have e := mul_S l1 2
        have e2 : (List.replicate 2 l1).flatten = l1 ++ l1 := by simp [List.replicate]
        rw [e2] at e
        show Q (.str (Txt.mul (St_ l1) ((2 : Nat) : Int))) H1
        rw [e]
        exact q
      · refine s_set (S (([40, 40, 40, 40, 40, 40, 40, 40] ++ l1 ++ [41, 41, 41, 41, 41, 41, 41, 41]) ++ l1)) (fun Q q => ?_) ⟨_, rfl, rfl, run_two (run_eight hl1) hl1, by walk_at "len"⟩
        refine ⟨_, rfl, a, ns, rfl, hS1, ?_⟩
        walk_at "go"
        rw [d_int, decide_eq_false hc]
        refine iteF ?_
        have q : Q (.str (St_ (([40, 40, 40, 40, 40, 40, 40, 40] ++ l1 ++ [41, 41, 41, 41, 41, 41, 41, 41]) ++ l1))) H1 := q
        rw [← add_S, ← add_S, ← add_S, ← lit_8o, ← lit_8c] at q
        refine ⟨_, rfl, _, _, rfl, rfl, ?_, _, _, rfl, rfl, ?_, _, rfl, _, _, rfl, rfl, ?_, q⟩
        · rw [lit_8o, len_S, len_S]; exact sz5 (by simp; omega)
        · rw [lit_8o, lit_8c, add_S, len_S, len_S]; exact sz5 (by simp; omega)
        · rw [lit_8o, lit_8c, add_S, add_S, len_S, len_S]; exact sz5 (by simp; omega)
    · rintro σ H2 ⟨l, rfl, rfl, hl, hz⟩
      have hbr := run_br l 0 0 hl
      have hrow := hbr.row
      have hcl := (isClosed_iff l hrow).mpr hl
      -- due
      refine ⟨sz5 (by decide), fun o no => ?_⟩
      refine ⟨_, rfl, _, rfl, for_txt (l := l) (fun p σ H' => ∃ x3, σ = [some (.ref a), some (S l), some (.ref o), x3, none, none, none, none, none, none, none, none] ∧ Same H2 H' ∧ H' o = some (.lst ((dps 0 p).map V.int)) ∧ p.length ≤ l.length)
        ⟨_, rfl, Same.new no, upd_same, Nat.zero_le _⟩ ?_ ?_⟩
      · rintro p c r σ H3 e ⟨x3, rfl, sm, ho, hp⟩
        have hc : c = 40 ∨ c = 41 := hbr c (by rw [e]; simp)
        have hlen2 : p.length + 1 ≤ l.length := by rw [e]; simp
        rw [show dps 0 p = dpi 0 p ++ [fin 0 p] from rfl, List.map_append] at ho
        refine ⟨_, rfl, .inl ⟨rfl, _, SqL.of ho⟩, _, rfl, _, rfl, _, _, _, _, rfl, rfl, SqL.of ho, atI_last _ _, ?_⟩
        refine rd_oc (va := .int 1) (vb := .int (-1)) (c := c) (fun H Q q => q) (fun H Q q => ⟨1, rfl, q⟩) (fun H Q q => ⟨_, rfl, q⟩) hc fun H4 s4 => ?_
        have ho4 := s4 _ _ ho
        rcases hc with rfl | rfl
        · refine ⟨_, _, rfl, rfl, _, _, _, rfl, rfl, ho4, sz5l (by walk_at "len"), _, rfl, (sm.trans s4).mut no, ?_, by walk_at "len"⟩
          rw [upd_same, dps_snoc]
          simp [dps, dst]
        · refine ⟨_, _, rfl, rfl, _, _, _, rfl, rfl, ho4, sz5l (by walk_at "len"), _, rfl, (sm.trans s4).mut no, ?_, by walk_at "len"⟩
          rw [upd_same, dps_snoc]
          simp [dps, dst]; omega
      · rintro σ H3 ⟨x3, rfl, sm3, ho3, _⟩
        -- for again in range(2)
        refine ⟨2, rfl, by decide, by decide, for_range (lo := 0) (n := 2) (fun i σ H' => ∃ x3 x4 x5 x6 x7, σ = [some (.ref a), some (S l), some (.ref o), x3, x4, x5, x6, x7, none, none, none, none] ∧ Same H3 H') ⟨_, _, _, _, _, rfl, Same.refl _⟩ ?_ ?_⟩
        · rintro i σ H4 hi ⟨x3, x4, x5, x6, x7, rfl, s4⟩
          have ho4 := s4 _ _ ho3
          -- found = partners(row)
          refine ⟨_, rfl, S l, rfl, .inl ⟨l, rfl, by omega, fun h => absurd hrow h, fun _ h => (by rw [hcl] at h; cases h), fun _ _ H5 p f hf s5 np hp => ?_⟩⟩
          have hfl := hf.1
          refine ⟨_, rfl, _, _, _, _, true, rfl, .ty "list", .base (.lst hp), kit_ty (by decide +kernel), _, rfl, iteF ?_⟩
          refine ⟨_, rfl, p, _, rfl, .inl (SqL.of hp), _, rfl, St_ l, rfl, szS (by omega), rfl, _, rfl, ite2 (fun h => ?_) (fun _ => ?_)⟩
          · exfalso
            rw [d_int, List.length_map, len_S, hfl] at h
            simp at h
          -- for place, sign in enumerate(row)
          refine ⟨_, rfl, _, rfl, for_enS (fun t σ H' => ∃ x3 x6, σ = [some (.ref a), some (S l), some (.ref o), x3, some (.int i), some (.ref p), x6, x7, none, none, none, none] ∧ Same H5 H') ⟨_, _, by rw [Int.zero_add]; rfl, Same.refl _⟩ ?_ ?_⟩
          · rintro t c r σ H6 H7 e ⟨x3, x6, rfl, s6⟩ s67
            have s7 := s6.trans s67
            have hp7 := s7 _ _ hp
            have hi' : l[t.length]? = some c := by rw [e, List.getElem?_append_right (Nat.le_refl _), Nat.sub_self]; rfl
            have hil := (List.getElem?_eq_some_iff.mp hi').1
            obtain ⟨u, hu, f1, f2, f3⟩ := hf.2 t.length hil
            have g1 : (f.map V.int)[t.length]? = some (.int u) := by rw [List.getElem?_map, f1]; rfl
            have g2 : (f.map V.int)[u]? = some (.int t.length) := by rw [List.getElem?_map, f2]; rfl
            refine ⟨fun σ' H' => σ' = [some (.ref a), some (S l), some (.ref o), some (ch c), some (.int i), some (.ref p), some (.int t.length), x7, none, none, none, none] ∧ H' = H7, ?_, ?_⟩
            · refine ⟨_, rfl, _, rfl, _, _, _, _, rfl, rfl, SqL.of hp7, atI_nat g1, ?_⟩
              refine ⟨_, _, _, _, false, rfl, .ty "bool", .base (.int _), kit_ty (by decide +kernel), _, rfl, iteF ?_⟩
              refine ⟨_, rfl, rfl, _, rfl, ite2 (fun h => ?_) (fun h => ?_)⟩
              · rw [d_op, decide_eq_true_eq] at h
                subst h
                refine ⟨_, rfl, _, rfl, _, _, _, _, rfl, rfl, SqL.of hp7, atI_nat g1, _, rfl, _, rfl, l, t.length, u, rfl, by omega, hrow, hu, f3 hi', rfl, _, rfl, iteNS rfl ⟨rfl, rfl⟩⟩
              · exact iteF ⟨rfl, rfl⟩
            · rintro σ' H' ⟨rfl, rfl⟩
              refine ⟨_, rfl, _, rfl, _, _, _, _, rfl, rfl, SqL.of hp7, atI_nat g1, _, _, rfl, rfl, _, rfl, ?_⟩
              rw [decide_eq_true (show (0 : Int) ≤ (u : Int) by omega)]
              refine iteT ⟨_, rfl, St_ l, rfl, szS (by omega), _, _, rfl, rfl, _, rfl, ?_⟩
              rw [decide_eq_true (show (u : Int) < ((St_ l).length : Nat) by rw [len_S]; omega)]
              refine iteF ⟨_, rfl, _, rfl, _, rfl, _, _, _, _, rfl, rfl, SqL.of hp7, atI_nat g1, _, _, _, _, rfl, rfl, SqL.of hp7, atI_nat g2, _, rfl, rfl, _, rfl, iteNS rfl ⟨_, _, rfl, s7⟩⟩
          · rintro σ H6 ⟨x3, x6, rfl, s6⟩
            have hp6 := s6 _ _ hp
            have s46 := s5.trans s6
            -- found.append(0)
            refine ⟨_, rfl, .inl ⟨rfl, _, SqL.of hp6⟩, _, _, _, rfl, rfl, hp6, sz5l (by walk_at "len"), ?_⟩
            have s47 := s46.mut np (o := HO.lst (f.map V.int ++ [V.int 0]))
            -- found = depths(row)
            refine ⟨_, rfl, S l, rfl, .inl ⟨l, rfl, by omega, fun h => absurd hrow h, fun _ h => (by rw [hcl] at h; cases h), fun _ _ H8 p2 s8 np2 hp2 => ?_⟩⟩
            have s48 := s47.trans s8
            have ho8 := s48 _ _ ho4
            have np2' := s47.free np2
            refine ⟨_, rfl, _, _, _, _, true, rfl, .ty "list", .base (.lst hp2), kit_ty (by decide +kernel), _, rfl, iteF ⟨_, rfl, _, rfl, ?_⟩⟩
            refine rd_neL (SqL.of hp2) (SqL.of ho8) ⟨_, rfl, iteNS rfl ?_⟩
            refine ⟨_, rfl, p2, rfl, ⟨_, SqL.of hp2⟩, fun D hD => lc_lstY (f := V.int) (xs := dps 0 l) (fun _ => .bl false) hD (by rw [dps_len]; omega) (SqL.of hp2) (fun _ => rfl)
              (fun c H' _ _ Q q => ⟨_, rfl, _, _, _, _, false, rfl, .ty "bool", .base (.int _), kit_ty (by decide +kernel), q _ (Same.refl _)⟩) fun H9 s9 e9 => ?_⟩
            refine ⟨D, List.replicate (dps 0 l).length false, rfl, SqL.of (by rw [e9, map_k]; simp), _, rfl, ?_⟩
            rw [show (List.replicate (dps 0 l).length false).any id = false by simp]
            have hp9 := s9 _ _ hp2
            refine iteF ⟨_, rfl, .inl ⟨rfl, _, SqL.of hp9⟩, _, _, _, rfl, rfl, hp9, sz5l (by walk_at "len"), ?_⟩
            exact ⟨_, _, _, _, _, rfl, s4.trans ((s48.trans s9).mut np2')⟩
        · rintro σ H4 ⟨x3, x4, x5, x6, x7, rfl, s4⟩
          have hS4 : SqL K H4 a (ns.map V.int) := s4.seq (sm3.seq hS1)
          refine ⟨_, rfl, rfl, _, rfl, ite2 (fun _ => q _) (fun h => ?_)⟩
          have hne : l ≠ [] := fun e => by
            rw [lit_e, e] at h
            exact h (decide_eq_true rfl)
          have hpos : 0 < l.length := List.length_pos_iff.mpr hne
          obtain ⟨n, hn⟩ : ∃ n : Nat, ns.sum % (l.length : Int) = (n : Int) := ⟨(ns.sum % (l.length : Int)).toNat, by rw [Int.toNat_of_nonneg (Int.emod_nonneg _ (by omega))]⟩
          have hnl : n < l.length := by have := Int.emod_lt_of_pos ns.sum (show (0 : Int) < (l.length : Int) by omega); omega
          show tSeq Ends.nx _ _ _ _
          refine nx_in ?_
          refine sq_set (.int (n : Int)) (fun Q q => ?_) ?_
          · rw [← hn, ← len_S] at q
            exact ⟨_, rfl, a, ns, rfl, hS4, _, rfl, St_ l, rfl, szS (by omega), _, _, rfl, rfl, (by show (0 : Int) < _; rw [len_S]; omega), q⟩
          have hc : l[n]? = some l[n] := List.getElem?_eq_getElem hnl
          generalize l[n] = c at hc
          have hcc : c = 40 ∨ c = 41 := hbr c (List.mem_of_getElem? hc)
          refine sq_asg (rd_oc (va := .str (Str.ofString ")")) (vb := .str (Str.ofString "(")) (c := c) (fun H Q q => q) (fun H Q q => q) (fun H Q q => ⟨_, rfl, _, rfl, _, _, _, rfl, rfl, szS (by omega), atI_nat hc, q⟩) hcc fun H5 s5 => ?_)
          have et : (if c = 40 then V.str (Str.ofString ")") else V.str (Str.ofString "(")) = V.str (St_ [if c = 40 then 41 else 40]) := by
            split
            · rw [lit_cl]
            · rw [lit_op]
          rw [et]
          -- others
          have z1 : ∀ m, (St_ (l.take m)).length ≤ 400 := fun m => by rw [len_S, List.length_take]; omega
          have z2 : ∀ m, (St_ (l.drop m)).length ≤ 400 := fun m => by rw [len_S, List.length_drop]; omega
          have hrd : ∀ (b : List Nat) (Q : VK) (te : TE), (b.length ≤ 10) → (∀ H Q, Q (.str (St_ b)) H → te [some (.ref a), some (S l), some (.ref o), x3, x4, x5, x6, x7, some (.int n), some (.str (St_ [if c = 40 then 41 else 40])), none, none] H Q) →
              Q (S (l.take n ++ b ++ l.drop (n + 1))) H5 → tOp (fun x y H Q => ∃ i j, x = V.str i ∧ y = V.str j ∧ i.length + j.length ≤ sizeLine ∧ Q (V.str (i ++ j)) H)
                (tOp (fun x y H Q => ∃ i j, x = V.str i ∧ y = V.str j ∧ i.length + j.length ≤ sizeLine ∧ Q (V.str (i ++ j)) H) (tSl rSlS (tVar 1) tNoPart (tPart (tVar 8))) te)
                (tSl rSlS (tVar 1) (tPart (tOp (rI0 fun i j => V.int (i + j)) (tVar 8) (tC (V.int 1)))) tNoPart) [some (.ref a), some (S l), some (.ref o), x3, x4, x5, x6, x7, some (.int n), some (.str (St_ [if c = 40 then 41 else 40])), none, none] H5 Q := by
            intro b Q te hb hte q
            have zb : (St_ b).length ≤ 10 := by rw [len_S]; exact hb
            refine ⟨_, rfl, _, rfl, _, rfl, St_ l, rfl, szS (by omega), hte _ _ ?_⟩
            rw [cut_to]
            refine ⟨_, _, rfl, rfl, sz5 (by have := z1 n; omega), _, rfl, _, rfl, _, _, rfl, rfl, _, rfl, St_ l, rfl, szS (by omega), ?_⟩
            have e1 : (n : Int) + 1 = ((n + 1 : Nat) : Int) := by omega
            show ∃ i j, V.str (St_ (l.take n) ++ St_ b) = V.str i ∧ V.str (cutS (St_ l) (some ((n : Int) + 1)) none) = V.str j ∧ i.length + j.length ≤ sizeLine ∧ Q (V.str (i ++ j)) H5
            rw [e1, cut_from, add_S]
            refine ⟨_, _, rfl, rfl, sz5 (by have := z2 (n + 1); have := z1 n; rw [len_S, List.length_append]; rw [len_S] at *; omega), ?_⟩
            rw [add_S]
            exact q
          refine sq_asg (lst_in (cons_val (S (l.take n ++ [if c = 40 then 41 else 40] ++ l.drop (n + 1))) (fun Q q => hrd _ Q _ (by simp) (fun H Q q => ⟨_, rfl, q⟩) q)
            (cons_val (S (l.take n ++ [63] ++ l.drop (n + 1))) (fun Q q => hrd _ Q _ (by simp) (fun H Q q => by rw [← lit_q] at q; exact q) q)
            (cons_val (S (l.drop 1)) (fun Q q => ⟨_, rfl, _, rfl, St_ l, rfl, szS (by omega), by
              have e := cut_from l 1
              show Q (.str (cutS (St_ l) (some ((1 : Nat) : Int)) none)) H5
              rw [e]; exact q⟩)
            (cons_val (S ([41, 40] ++ l)) (fun Q q => ⟨_, rfl, _, _, rfl, rfl, by rw [lit_co, len_S, len_S]; exact sz5 (by simp; omega), by rw [lit_co, add_S]; exact q⟩)
            (nil_val ⟨sz5 (by simp), fun p3 np3 => ?_⟩))))))
          have hall : ∀ d ∈ [l.take n ++ [if c = 40 then 41 else 40] ++ l.drop (n + 1), l.take n ++ [63] ++ l.drop (n + 1), l.drop 1, [41, 40] ++ l], d.length ≤ 90000 ∧ IsRow d ∧ isClosed d = false := by
            intro d hd
            simp only [List.mem_cons, List.not_mem_nil, or_false] at hd
            rcases hd with rfl | rfl | rfl | rfl
            · exact ⟨by walk_at "len", ((hrow.take n).append (.one (by split <;> simp))).append (hrow.drop _), not_turned hl hc⟩
            · exact ⟨by walk_at "len", ((hrow.take n).append (.one (by simp))).append (hrow.drop _), not_rubbed _ _⟩
            · exact ⟨by walk_at "len", hrow.drop 1, not_tail hl hne⟩
            · exact ⟨by walk_at "len", IsRow.append (fun x hx => by simp at hx; rcases hx with h | h <;> simp [h]) hrow, not_wrong hrow⟩
          refine ⟨_, rfl, p3, rfl, ⟨_, SqL.of upd_same⟩, fun D hD => lc_lstY (f := S) (xs := [l.take n ++ [if c = 40 then 41 else 40] ++ l.drop (n + 1), l.take n ++ [63] ++ l.drop (n + 1), l.drop 1, [41, 40] ++ l]) (fun _ => .bl true) hD (by simp) (SqL.of upd_same) (fun _ => rfl)
              (fun d H' hd s' Q q => ?_) fun H9 s9 e9 => ?_⟩
          · obtain ⟨d1, d2, d3⟩ := hall d hd
            exact ⟨_, rfl, T.f_partners.a, d, rfl, .inl rfl, d1, d2, d3, fun H6 s6 => ⟨_, rfl, iteT ⟨_, rfl, T.f_depths.a, d, rfl, .inr rfl, d1, d2, d3, fun H7 s7 => q _ (s6.trans s7)⟩⟩⟩
          · exact ⟨D, [true, true, true, true], rfl, SqL.of e9, q _⟩
end
end HT5

set_option Elab.async false
set_option linter.all false
set_option maxRecDepth 100000
set_option maxHeartbeats 4000000
namespace HT5
open PySem PySem.Spec PyProof.Rows L2 BR
def spEnd (K : PySem.W.Frag) : Sp := fun vs H Q _ => ∃ (a : Addr) (ns : List Int), vs = [.ref a] ∧ SqL K H a (ns.map V.int) ∧ ns.length ≤ 63 ∧ ∀ H', Q (.bl true) H'
theorem all_mk {l : PySem.W.OpenLaw} {w : World} {K : PySem.W.Frag} {h : Heap} {mg : Str → Option Value} {fa f1 f2 f3 f4 f5 f6 f7 f8 f9 CBracketError CBadRow CNoFilling CBadNumber CBadText CBadPrices : Addr} (X : K.In h) (G : h.Ns mainGlobals mg) (hfa : mg "law" = some (.ref fa))
    {od1 an1 : Option Addr} {sl1 : Array (Option Value)} {oc1 kV1 dc1 pm1 cd1 ct1 : Value}
    {od2 an2 : Option Addr} {sl2 : Array (Option Value)} {oc2 kV2 dc2 pm2 cd2 ct2 : Value}
    {od3 an3 : Option Addr} {sl3 : Array (Option Value)} {oc3 kV3 dc3 pm3 cd3 ct3 : Value}
    {od4 an4 : Option Addr} {sl4 : Array (Option Value)} {oc4 kV4 dc4 pm4 cd4 ct4 : Value}
    {od5 an5 : Option Addr} {sl5 : Array (Option Value)} {oc5 kV5 dc5 pm5 cd5 ct5 : Value}
    {od6 an6 : Option Addr} {sl6 : Array (Option Value)} {oc6 kV6 dc6 pm6 cd6 ct6 : Value}
    {od7 an7 : Option Addr} {sl7 : Array (Option Value)} {oc7 kV7 dc7 pm7 cd7 ct7 : Value}
    {od8 an8 : Option Addr} {sl8 : Array (Option Value)} {oc8 kV8 dc8 pm8 cd8 ct8 : Value}
    {od9 an9 : Option Addr} {sl9 : Array (Option Value)} {oc9 kV9 dc9 pm9 cd9 ct9 : Value}
    (a1 : PySem.W.nsIn K mainGlobals "asked_row" = some (some (.ref f1)))
    (l1 : K.lookup f1 = some ⟨oc1, od1, .func (PySem.W.fnOf "asked_row" "asked_row" (defArgs sAskedRow) (defBody sAskedRow) (defScope sAskedRow) .none kV1 dc1 pm1 an1 cd1 ct1), sl1⟩)
    (c1 : PySem.W.codeIn K cd1 "asked_row" = true)
    (k1 : PySem.W.keepIn K (.ref f1) = true)
    (a2 : PySem.W.nsIn K mainGlobals "depths_of" = some (some (.ref f2)))
    (l2 : K.lookup f2 = some ⟨oc2, od2, .func (PySem.W.fnOf "depths_of" "depths_of" (defArgs sDepthsOf) (defBody sDepthsOf) (defScope sDepthsOf) .none kV2 dc2 pm2 an2 cd2 ct2), sl2⟩)
    (c2 : PySem.W.codeIn K cd2 "depths_of" = true)
    (k2 : PySem.W.keepIn K (.ref f2) = true)
    (a3 : PySem.W.nsIn K mainGlobals "is_closed" = some (some (.ref f3)))
    (l3 : K.lookup f3 = some ⟨oc3, od3, .func (PySem.W.fnOf "is_closed" "is_closed" (defArgs sIsClosed) (defBody sIsClosed) (defScope sIsClosed) .none kV3 dc3 pm3 an3 cd3 ct3), sl3⟩)
    (c3 : PySem.W.codeIn K cd3 "is_closed" = true)
    (k3 : PySem.W.keepIn K (.ref f3) = true)
    (a4 : PySem.W.nsIn K mainGlobals "partners" = some (some (.ref f4)))
    (l4 : K.lookup f4 = some ⟨oc4, od4, .func (PySem.W.fnOf "partners" "partners" (defArgs sPartners) (defBody sPartners) (defScope sPartners) .none kV4 dc4 pm4 an4 cd4 ct4), sl4⟩)
    (c4 : PySem.W.codeIn K cd4 "partners" = true)
    (k4 : PySem.W.keepIn K (.ref f4) = true)
    (a5 : PySem.W.nsIn K mainGlobals "depths" = some (some (.ref f5)))
    (l5 : K.lookup f5 = some ⟨oc5, od5, .func (PySem.W.fnOf "depths" "depths" (defArgs sDepths) (defBody sDepths) (defScope sDepths) .none kV5 dc5 pm5 an5 cd5 ct5), sl5⟩)
    (c5 : PySem.W.codeIn K cd5 "depths" = true)
    (k5 : PySem.W.keepIn K (.ref f5) = true)
    (a6 : PySem.W.nsIn K mainGlobals "_law_closed_row" = some (some (.ref f6)))
    (l6 : K.lookup f6 = some ⟨oc6, od6, .func (PySem.W.fnOf "_law_closed_row" "_law_closed_row" (defArgs sLawClosedRow) (defBody sLawClosedRow) (defScope sLawClosedRow) .none kV6 dc6 pm6 an6 cd6 ct6), sl6⟩)
    (c6 : PySem.W.codeIn K cd6 "_law_closed_row" = true)
    (k6 : PySem.W.keepIn K (.ref f6) = true)
    (a7 : PySem.W.nsIn K mainGlobals "_law_partner" = some (some (.ref f7)))
    (l7 : K.lookup f7 = some ⟨oc7, od7, .func (PySem.W.fnOf "_law_partner" "_law_partner" (defArgs sLawPartner) (defBody sLawPartner) (defScope sLawPartner) .none kV7 dc7 pm7 an7 cd7 ct7), sl7⟩)
    (c7 : PySem.W.codeIn K cd7 "_law_partner" = true)
    (k7 : PySem.W.keepIn K (.ref f7) = true)
    (a8 : PySem.W.nsIn K mainGlobals "_law_refused" = some (some (.ref f8)))
    (l8 : K.lookup f8 = some ⟨oc8, od8, .func (PySem.W.fnOf "_law_refused" "_law_refused" (defArgs sLawRefused) (defBody sLawRefused) (defScope sLawRefused) .none kV8 dc8 pm8 an8 cd8 ct8), sl8⟩)
    (c8 : PySem.W.codeIn K cd8 "_law_refused" = true)
    (k8 : PySem.W.keepIn K (.ref f8) = true)
    (a9 : PySem.W.nsIn K mainGlobals "law" = some (some (.ref f9)))
    (l9 : K.lookup f9 = some ⟨oc9, od9, .func (PySem.W.fnOf "law" "law" (defArgs sLaw) (defBody sLaw) (defScope sLaw) .none kV9 dc9 pm9 an9 cd9 ct9), sl9⟩)
    (c9 : PySem.W.codeIn K cd9 "law" = true)
    (k9 : PySem.W.keepIn K (.ref f9) = true)
    (aCBracketError : PySem.W.nsIn K mainGlobals "BracketError" = some (some (.ref CBracketError)))
    (aCBadRow : PySem.W.nsIn K mainGlobals "BadRow" = some (some (.ref CBadRow)))
    (aCNoFilling : PySem.W.nsIn K mainGlobals "NoFilling" = some (some (.ref CNoFilling)))
    (aCBadNumber : PySem.W.nsIn K mainGlobals "BadNumber" = some (some (.ref CBadNumber)))
    (aCBadText : PySem.W.nsIn K mainGlobals "BadText" = some (some (.ref CBadText)))
    (aCBadPrices : PySem.W.nsIn K mainGlobals "BadPrices" = some (some (.ref CBadPrices)))
    (z_ValueError : PySem.W.nsIn K mainGlobals "ValueError" = some none)
    (z_all : PySem.W.nsIn K mainGlobals "all" = some none)
    (z_any : PySem.W.nsIn K mainGlobals "any" = some none)
    (z_bool : PySem.W.nsIn K mainGlobals "bool" = some none)
    (z_enumerate : PySem.W.nsIn K mainGlobals "enumerate" = some none)
    (z_isinstance : PySem.W.nsIn K mainGlobals "isinstance" = some none)
    (z_len : PySem.W.nsIn K mainGlobals "len" = some none)
    (z_list : PySem.W.nsIn K mainGlobals "list" = some none)
    (z_min : PySem.W.nsIn K mainGlobals "min" = some none)
    (z_range : PySem.W.nsIn K mainGlobals "range" = some none)
    (z_str : PySem.W.nsIn K mainGlobals "str" = some none)
    (z_sum : PySem.W.nsIn K mainGlobals "sum" = some none)
    (x_BracketError : PySem.W.excIn K CBracketError [.type "ValueError", .type "Exception", .type "BaseException", .type "object"] "ValueError.__new__" = true)
    (kx_BracketError : PySem.W.keepIn K (.ref CBracketError) = true)
    (bx_BracketError : PySem.W.subIn K (.ref CBracketError) (.type "BaseException") = some true)
    (tx_BracketError : PySem.W.typeIn K (.ref CBracketError) = some (.type "type"))
    (x_BadRow : PySem.W.excIn K CBadRow [.type "ValueError", .type "Exception", .type "BaseException", .type "object"] "ValueError.__new__" = true)
    (kx_BadRow : PySem.W.keepIn K (.ref CBadRow) = true)
    (bx_BadRow : PySem.W.subIn K (.ref CBadRow) (.type "BaseException") = some true)
    (tx_BadRow : PySem.W.typeIn K (.ref CBadRow) = some (.type "type"))
    (x_NoFilling : PySem.W.excIn K CNoFilling [.type "ValueError", .type "Exception", .type "BaseException", .type "object"] "ValueError.__new__" = true)
    (kx_NoFilling : PySem.W.keepIn K (.ref CNoFilling) = true)
    (bx_NoFilling : PySem.W.subIn K (.ref CNoFilling) (.type "BaseException") = some true)
    (tx_NoFilling : PySem.W.typeIn K (.ref CNoFilling) = some (.type "type"))
    (x_BadNumber : PySem.W.excIn K CBadNumber [.type "ValueError", .type "Exception", .type "BaseException", .type "object"] "ValueError.__new__" = true)
    (kx_BadNumber : PySem.W.keepIn K (.ref CBadNumber) = true)
    (bx_BadNumber : PySem.W.subIn K (.ref CBadNumber) (.type "BaseException") = some true)
    (tx_BadNumber : PySem.W.typeIn K (.ref CBadNumber) = some (.type "type"))
    (x_BadText : PySem.W.excIn K CBadText [.type "ValueError", .type "Exception", .type "BaseException", .type "object"] "ValueError.__new__" = true)
    (kx_BadText : PySem.W.keepIn K (.ref CBadText) = true)
    (bx_BadText : PySem.W.subIn K (.ref CBadText) (.type "BaseException") = some true)
    (tx_BadText : PySem.W.typeIn K (.ref CBadText) = some (.type "type"))
    (x_BadPrices : PySem.W.excIn K CBadPrices [.type "ValueError", .type "Exception", .type "BaseException", .type "object"] "ValueError.__new__" = true)
    (kx_BadPrices : PySem.W.keepIn K (.ref CBadPrices) = true)
    (bx_BadPrices : PySem.W.subIn K (.ref CBadPrices) (.type "BaseException") = some true)
    (tx_BadPrices : PySem.W.typeIn K (.ref CBadPrices) = some (.type "type"))
    (hnO : PySem.W.specialIn K (.builtin "object.__class__") "__get__" = some (some (.builtin "getset_descriptor.__get__")))
    (htO : PySem.W.takesIn K (.builtin "object.__class__") = some true)
    (hdB : PySem.W.hasDictIn K CBracketError = true)
    (eg_NoFilling : PySem.W.findIn K (.ref CNoFilling) "__getattribute__" = some (some (.builtin "BaseException.__getattribute__")))
    (ek_NoFilling : PySem.W.findIn K (.ref CNoFilling) "__getattr__" = some none)
    (ed_NoFilling : PySem.W.hasDictIn K CNoFilling = true)
    (ea_NoFilling : PySem.W.findIn K (.ref CNoFilling) "__class__" = some (some (.builtin "object.__class__")))
    (em_NoFilling : PySem.W.mroIn K CNoFilling (.type "object") = some true)
    (i_NoFilling_BracketError : PySem.W.kitOne K (.ref CNoFilling) (.ref CBracketError) = some true)
    (i_NoFilling_BadRow : PySem.W.kitOne K (.ref CNoFilling) (.ref CBadRow) = some false)
    (i_NoFilling_NoFilling : PySem.W.kitOne K (.ref CNoFilling) (.ref CNoFilling) = some true)
    (i_NoFilling_BadNumber : PySem.W.kitOne K (.ref CNoFilling) (.ref CBadNumber) = some false)
    (i_NoFilling_BadText : PySem.W.kitOne K (.ref CNoFilling) (.ref CBadText) = some false)
    (i_NoFilling_BadPrices : PySem.W.kitOne K (.ref CNoFilling) (.ref CBadPrices) = some false)
    (i_NoFilling_ValueError : PySem.W.kitOne K (.ref CNoFilling) (.type "ValueError") = some true)
    (sB_NoFilling : PySem.W.subIn K (.ref CNoFilling) (.ref CBracketError) = some true) :
    ∃ fd : FuncData, (∀ (s : Shared) (v : Value), BindsTo s fd ⟨[v], []⟩ [("_law_script", v)]) ∧ ∀ base : Heap, K.In base → base.Ns mainGlobals mg → FnOk l.prog w K mg base CX0 5 fa fd ["_law_script"] (spEnd K) := by
  have e := hfa.symm.trans (PySem.W.mg_of X G a9)
  cases e
  have F1 := fun_mk (st := sAskedRow) l1 c1 k1
  have F2 := fun_mk (st := sDepthsOf) l2 c2 k2
  have F3 := fun_mk (st := sIsClosed) l3 c3 k3
  have F4 := fun_mk (st := sPartners) l4 c4 k4
  have F5 := fun_mk (st := sDepths) l5 c5 k5
  have F6 := fun_mk (st := sLawClosedRow) l6 c6 k6
  have F7 := fun_mk (st := sLawPartner) l7 c7 k7
  have F8 := fun_mk (st := sLawRefused) l8 c8 k8
  have F9 := fun_mk (st := sLaw) l9 c9 k9
  have T : Txt K mg := {
    n_ValueError := PySem.W.mg_none_of X G z_ValueError,
    n_all := PySem.W.mg_none_of X G z_all,
    n_any := PySem.W.mg_none_of X G z_any,
    n_bool := PySem.W.mg_none_of X G z_bool,
    n_enumerate := PySem.W.mg_none_of X G z_enumerate,
    n_isinstance := PySem.W.mg_none_of X G z_isinstance,
    n_len := PySem.W.mg_none_of X G z_len,
    n_list := PySem.W.mg_none_of X G z_list,
    n_min := PySem.W.mg_none_of X G z_min,
    n_range := PySem.W.mg_none_of X G z_range,
    n_str := PySem.W.mg_none_of X G z_str,
    n_sum := PySem.W.mg_none_of X G z_sum,
    f_asked_row := ⟨f1, _, F1, PySem.W.mg_of X G a1, F1.binds (ps := ["row"]) fun _ _ _ _ _ _ us hl => match us, hl with | [_], _ => rfl⟩,
    f_depths_of := ⟨f2, _, F2, PySem.W.mg_of X G a2, F2.binds (ps := ["text"]) fun _ _ _ _ _ _ us hl => match us, hl with | [_], _ => rfl⟩,
    f_is_closed := ⟨f3, _, F3, PySem.W.mg_of X G a3, F3.binds (ps := ["text"]) fun _ _ _ _ _ _ us hl => match us, hl with | [_], _ => rfl⟩,
    f_partners := ⟨f4, _, F4, PySem.W.mg_of X G a4, F4.binds (ps := ["row"]) fun _ _ _ _ _ _ us hl => match us, hl with | [_], _ => rfl⟩,
    f_depths := ⟨f5, _, F5, PySem.W.mg_of X G a5, F5.binds (ps := ["row"]) fun _ _ _ _ _ _ us hl => match us, hl with | [_], _ => rfl⟩,
    f__law_closed_row := ⟨f6, _, F6, PySem.W.mg_of X G a6, F6.binds (ps := ["_law_script"]) fun _ _ _ _ _ _ us hl => match us, hl with | [_], _ => rfl⟩,
    f__law_partner := ⟨f7, _, F7, PySem.W.mg_of X G a7, F7.binds (ps := ["_law_row", "_law_place"]) fun _ _ _ _ _ _ us hl => match us, hl with | [_, _], _ => rfl⟩,
    f__law_refused := ⟨f8, _, F8, PySem.W.mg_of X G a8, F8.binds (ps := ["_law_ask", "_law_row"]) fun _ _ _ _ _ _ us hl => match us, hl with | [_, _], _ => rfl⟩,
    c_BracketError := CBracketError,
    g_BracketError := PySem.W.mg_of X G aCBracketError,
    k_BracketError := kx_BracketError,
    b_BracketError := bx_BracketError,
    t_BracketError := tx_BracketError,
    x_BracketError := x_BracketError,
    c_BadRow := CBadRow,
    g_BadRow := PySem.W.mg_of X G aCBadRow,
    k_BadRow := kx_BadRow,
    b_BadRow := bx_BadRow,
    t_BadRow := tx_BadRow,
    x_BadRow := x_BadRow,
    c_NoFilling := CNoFilling,
    g_NoFilling := PySem.W.mg_of X G aCNoFilling,
    k_NoFilling := kx_NoFilling,
    b_NoFilling := bx_NoFilling,
    t_NoFilling := tx_NoFilling,
    x_NoFilling := x_NoFilling,
    c_BadNumber := CBadNumber,
    g_BadNumber := PySem.W.mg_of X G aCBadNumber,
    k_BadNumber := kx_BadNumber,
    b_BadNumber := bx_BadNumber,
    t_BadNumber := tx_BadNumber,
    x_BadNumber := x_BadNumber,
    c_BadText := CBadText,
    g_BadText := PySem.W.mg_of X G aCBadText,
    k_BadText := kx_BadText,
    b_BadText := bx_BadText,
    t_BadText := tx_BadText,
    x_BadText := x_BadText,
    c_BadPrices := CBadPrices,
    g_BadPrices := PySem.W.mg_of X G aCBadPrices,
    k_BadPrices := kx_BadPrices,
    b_BadPrices := bx_BadPrices,
    t_BadPrices := tx_BadPrices,
    x_BadPrices := x_BadPrices,
    e_NoFilling := ⟨eg_NoFilling, ek_NoFilling, bx_NoFilling, ed_NoFilling, ea_NoFilling, hnO, htO, em_NoFilling⟩,
    i_NoFilling_BracketError := i_NoFilling_BracketError,
    i_NoFilling_BadRow := i_NoFilling_BadRow,
    i_NoFilling_NoFilling := i_NoFilling_NoFilling,
    i_NoFilling_BadNumber := i_NoFilling_BadNumber,
    i_NoFilling_BadText := i_NoFilling_BadText,
    i_NoFilling_BadPrices := i_NoFilling_BadPrices,
    i_NoFilling_ValueError := i_NoFilling_ValueError,
    s_NoFilling := PySem.W.exm_ref bx_BracketError hdB tx_BracketError sB_NoFilling }
  exact ⟨PySem.W.fnOf "law" "law" (defArgs sLaw) (defBody sLaw) (defScope sLaw) .none kV9 dc9 pm9 an9 cd9 ct9, fun s v => .of_eq rfl, fun base _ _ => okLaw T F9⟩
end HT5
open PySem PySem.W PyProof.Rows
set_option maxHeartbeats 0 in
theorem PySem.Challenge.cw_halftold_k05_closed_holds : PySem.Challenge.rw_halftold_k05_closed.Holds := by
  w_on; o_law; k_head; (case hw => w_witness2)
  k_fill
  refine L2.walk_of (l := PySem.Challenge.rw_halftold_k05_closed) (n := 63) (k := 5) (x := "_law_script") (CX := fun _ => L2.CX0) (sp := fun w => HT5.spEnd _) rfl (by decide) rfl ⟨rfl, by decide, by decide⟩ (fun w h Y => PySem.W.kIn_of Y) ?F (fun _ _ a ns hl _ hS => ⟨a, ns, rfl, hS, hl, fun _ => rfl⟩) (fun _ _ _ _ _ h => h)
  case F =>
    intro w mg fa h KX G hmg
    refine' HT5.all_mk KX G hmg ?a1 ?l1 ?c1 ?k1 ?a2 ?l2 ?c2 ?k2 ?a3 ?l3 ?c3 ?k3 ?a4 ?l4 ?c4 ?k4 ?a5 ?l5 ?c5 ?k5 ?a6 ?l6 ?c6 ?k6 ?a7 ?l7 ?c7 ?k7 ?a8 ?l8 ?c8 ?k8 ?a9 ?l9 ?c9 ?k9 ?aCBracketError ?aCBadRow ?aCNoFilling ?aCBadNumber ?aCBadText ?aCBadPrices ?z_ValueError ?z_all ?z_any ?z_bool ?z_enumerate ?z_isinstance ?z_len ?z_list ?z_min ?z_range ?z_str ?z_sum ?x_BracketError ?kx_BracketError ?bx_BracketError ?tx_BracketError ?x_BadRow ?kx_BadRow ?bx_BadRow ?tx_BadRow ?x_NoFilling ?kx_NoFilling ?bx_NoFilling ?tx_NoFilling ?x_BadNumber ?kx_BadNumber ?bx_BadNumber ?tx_BadNumber ?x_BadText ?kx_BadText ?bx_BadText ?tx_BadText ?x_BadPrices ?kx_BadPrices ?bx_BadPrices ?tx_BadPrices ?hnO ?htO ?hdB ?eg_NoFilling ?ek_NoFilling ?ed_NoFilling ?ea_NoFilling ?em_NoFilling ?i_NoFilling_BracketError ?i_NoFilling_BadRow ?i_NoFilling_NoFilling ?i_NoFilling_BadNumber ?i_NoFilling_BadText ?i_NoFilling_BadPrices ?i_NoFilling_ValueError ?sB_NoFilling
    (case a1 => k_is)
    (case l1 => k_is)
    (case c1 => k_is)
    (case k1 => k_is)
    (case a2 => k_is)
    (case l2 => k_is)
    (case c2 => k_is)
    (case k2 => k_is)
    (case a3 => k_is)
    (case l3 => k_is)
    (case c3 => k_is)
    (case k3 => k_is)
    (case a4 => k_is)
    (case l4 => k_is)
    (case c4 => k_is)
    (case k4 => k_is)
    (case a5 => k_is)
    (case l5 => k_is)
    (case c5 => k_is)
    (case k5 => k_is)
    (case a6 => k_is)
    (case l6 => k_is)
    (case c6 => k_is)
    (case k6 => k_is)
    (case a7 => k_is)
    (case l7 => k_is)
    (case c7 => k_is)
    (case k7 => k_is)
    (case a8 => k_is)
    (case l8 => k_is)
    (case c8 => k_is)
    (case k8 => k_is)
    (case a9 => k_is)
    (case l9 => k_is)
    (case c9 => k_is)
    (case k9 => k_is)
    (case aCBracketError => k_is)
    (case aCBadRow => k_is)
    (case aCNoFilling => k_is)
    (case aCBadNumber => k_is)
    (case aCBadText => k_is)
    (case aCBadPrices => k_is)
    (case z_ValueError => k_is)
    (case z_all => k_is)
    (case z_any => k_is)
    (case z_bool => k_is)
    (case z_enumerate => k_is)
    (case z_isinstance => k_is)
    (case z_len => k_is)
    (case z_list => k_is)
    (case z_min => k_is)
    (case z_range => k_is)
    (case z_str => k_is)
    (case z_sum => k_is)
    (case x_BracketError => k_exc)
    (case kx_BracketError => k_is)
    (case bx_BracketError => k_is)
    (case tx_BracketError => k_is)
    (case x_BadRow => k_exc)
    (case kx_BadRow => k_is)
    (case bx_BadRow => k_is)
    (case tx_BadRow => k_is)
    (case x_NoFilling => k_exc)
    (case kx_NoFilling => k_is)
    (case bx_NoFilling => k_is)
    (case tx_NoFilling => k_is)
    (case x_BadNumber => k_exc)
    (case kx_BadNumber => k_is)
    (case bx_BadNumber => k_is)
    (case tx_BadNumber => k_is)
    (case x_BadText => k_exc)
    (case kx_BadText => k_is)
    (case bx_BadText => k_is)
    (case tx_BadText => k_is)
    (case x_BadPrices => k_exc)
    (case kx_BadPrices => k_is)
    (case bx_BadPrices => k_is)
    (case tx_BadPrices => k_is)
    (case hnO => k_is)
    (case htO => k_is)
    (case hdB => k_is)
    (case eg_NoFilling => k_is)
    (case ek_NoFilling => k_is)
    (case ed_NoFilling => k_is)
    (case ea_NoFilling => k_is)
    (case em_NoFilling => k_is)
    (case i_NoFilling_BracketError => kit_is)
    (case i_NoFilling_BadRow => kit_is)
    (case i_NoFilling_NoFilling => kit_is)
    (case i_NoFilling_BadNumber => kit_is)
    (case i_NoFilling_BadText => kit_is)
    (case i_NoFilling_BadPrices => kit_is)
    (case i_NoFilling_ValueError => kit_is)
    (case sB_NoFilling => k_is)
#print axioms PySem.Challenge.cw_halftold_k05_closed_holds

