import PyProof.Rows.All
import Wide.All
import OpenK.AllK
import Wide.FinOn
import HandS.ForMost
import HandS.Gcd
import HandS.IsInst
import HandS.StrMore
import HandS.WideBits
import HandS.Wide
import HandS.Style
import HandS.Evl
import KE.DataMinMax
import PyProof.Draws
import PyProof.ReprRoads
import HandS.Conv
import PySem.Challenge.RW_sideswaps_k74_whole_number_lists_parted
import HandS.Walk
import PyProof.StrLawsRepr
set_option Elab.async false
set_option linter.all false
set_option maxRecDepth 100000
set_option maxHeartbeats 4000000
/-! own rules: operations that the layer lacks -/
namespace K74
open PySem PySem.Spec PyProof.Rows L2
/-! ### texts as lists of codes -/
def mkS (l : List Nat) : Str := ⟨l.toArray⟩
def sv (l : List Nat) : V := .str (mkS l)
section
variable {X : Cx}
/-! ### a power of a great base -/
theorem op_powB : OpR X (binaryOp .Pow) (rI (fun i j => 0 ≤ j ∧ (Builtin.Int.intBits i : Int) * j ≤ 2 ^ 27) fun i j => .int (i ^ j.toNat)) :=
  opI fun a b ta tb st Qq Ee ok go => pow_int ok.1 ok.2 go
/-! ### text * number -/
def rMulS : R2 := fun x y H Q => ∃ (z : List Nat) (n : Nat), x = sv z ∧ y = .int (n : Int) ∧ z.length ≤ 1000 ∧ n ≤ 1000 ∧ Q (sv (List.replicate n z).flatten) H
theorem fold_rep (z : List Nat) : ∀ (n : Nat) (acc : List Nat), (List.replicate n z.toArray).foldl (· ++ ·) acc.toArray = (acc ++ (List.replicate n z).flatten).toArray
  | 0, acc => by simp
  | n + 1, acc => by
    rw [List.replicate_succ, List.foldl_cons, List.replicate_succ, List.flatten_cons]
    have e : acc.toArray ++ z.toArray = (acc ++ z).toArray := by simp
    rw [e, fold_rep z n (acc ++ z), List.append_assoc]
theorem op_mulS : OpR X (binaryOp .Mult) rMulS := by
  intro pn st sg Hh x y v u Qq Iv rx ry hyp
  obtain ⟨z, n, rfl, rfl, hz, hn, q⟩ := hyp
  obtain ⟨t, rfl⟩ := rx
  obtain ⟨t', rfl⟩ := ry
  have hlen : (mkS z).length = z.length := by simp [mkS, Str.length]
  have hprod : z.length * n ≤ 1000000 := by
    have := Nat.mul_le_mul hz hn
    omega
  have e2 : (2 : Int) ^ 63 = 9223372036854775808 := by decide
  refine P.mul_str ?_ ?_ ?_ ?_
  · rw [e2, decide_eq_false (by omega), decide_eq_false (by omega)]
    rfl
  · intro h1 _ hgt
    rw [hlen] at hgt
    have hq : (1000 : Int) ≤ (2 ^ 63 - 1) / (n : Int) := by
      rw [e2]
      exact (Int.le_ediv_iff_mul_le (by omega)).mpr (by omega)
    omega
  · intro _ _
    rw [hlen, Int.toNat_natCast]
    refine decide_eq_false ?_
    have := sizeLine_eq
    omega
  · by_cases h1 : (n : Int) < 1
    · rw [if_pos h1]
      have h0 : n = 0 := by omega
      subst h0
      exact ⟨by decide, sv [], Hh, Iv.tok _, ⟨_, rfl⟩, q⟩
    · rw [if_neg h1]
      by_cases h2 : ((n : Int) == 1 || (mkS z).length == 0) = true
      · rw [if_pos h2]
        have e : (List.replicate n z).flatten = z := by
          rcases Bool.or_eq_true .. ▸ h2 with h3 | h3
          · have h4 : n = 1 := by
              have := eq_of_beq h3
              omega
            subst h4
            simp
          · have h4 : z.length = 0 := by
              have := eq_of_beq h3
              omega
            rw [List.length_eq_zero_iff.mp h4]
            simp
        rw [e] at q
        exact ⟨sv z, Hh, Iv, ⟨_, rfl⟩, q⟩
      · rw [if_neg h2]
        have e : (List.replicate n (mkS z).cps).foldl (· ++ ·) #[] = ((List.replicate n z).flatten).toArray := by
          have := fold_rep z n []
          simpa [mkS] using this
        rw [Int.toNat_natCast, e]
        refine ⟨?_, sv (List.replicate n z).flatten, Hh, Iv.tok _, ⟨_, rfl⟩, q⟩
        have hl : ((List.replicate n z).flatten).length = n * z.length := by simp
        show ((List.replicate n z).flatten).toArray.size ≤ sizeLine
        have := sizeLine_eq
        rw [List.size_toArray, hl, Nat.mul_comm]
        omega
/-! ### min of a list of two texts -/
def lesser (x y : List Nat) : List Nat := if y < x then y else x
def rMinS (K : PySem.W.Frag) : List V → Hp → VK → Prop := fun vs H Q => ∃ (a : Addr) (x y : List Nat), vs = [V.ref a] ∧ SqL K H a [sv x, sv y] ∧ Q (sv (lesser x y)) H
theorem cr_minS (hc : X.calm = true) (hu : X.A.units + 64 < cLine) : CallR X (.builtin "min") (rMinS X.K) := by
  intro pn st sg Hh vs us Qq Iv rr hyp
  obtain ⟨a, x, y, rfl, hs, q⟩ := hyp
  obtain ⟨its, rv, hl, _⟩ := Iv.list hs
  rw [Vals.ref1 rr]
  have hd : DpAll X.K Hh [sv x, sv y] [.str (mkS x), .str (mkS y)] := .cons (.str _) (.cons (.str _) .nil)
  obtain ⟨as, hr⟩ := Dp.readsAll Iv [.str (mkS x), .str (mkS y)] [sv x, sv y] its hd rv
  have e : PySem.W.minD (.str (mkS x)) [.str (mkS y)] = .str (mkS (lesser x y)) := by
    unfold PySem.W.minD lesser
    rw [List.foldl_cons, List.foldl_nil, PySem.W.dataLt_str]
    show (if decide (y.toArray.toList < x.toArray.toList) = true then _ else _) = _
    rw [List.toList_toArray, List.toList_toArray]
    by_cases h : y < x
    · rw [if_pos h, if_pos (decide_eq_true h)]
    · rw [if_neg h, if_neg (by rw [decide_eq_false h]; exact Bool.false_ne_true)]
  refine PySem.W.min_list_data (x := .str (mkS x)) (xs := [.str (mkS y)]) (as := as) (Iv.ok.hd hc) hl.isList hr ⟨fun p hp r hq => ?_, fun p hp => ?_⟩ ?_ ?_
  · simp only [List.mem_cons, List.not_mem_nil, or_false] at hp hq
    rcases hp with rfl | rfl <;> rcases hq with rfl | rfl <;> rfl
  · simp only [List.mem_cons, List.not_mem_nil, or_false] at hp
    rcases hp with rfl | rfl <;> exact fun z => nomatch z
  · show X.A.units + 1 + _ < cLine
    have : PyData.depthAll [.str (mkS x), .str (mkS y)] ≤ 1 := by simp [PyData.depthAll, PyData.depth]
    omega
  · intro i v h' tk bs hv hR hk
    rw [e] at hR
    cases hR
    exact ⟨sv (lesser x y), Hh, Iv.kept hk, ⟨_, rfl⟩, q⟩
/-! ### repr -/
theorem call_reprS : CallR X (.builtin "repr") (fun xs H Q => ∃ a : List Nat, xs = [sv a] ∧ (reprText (mkS a)).length ≤ sizeLine ∧ Q (.str (reprText (mkS a))) H) := by
  intro pn st sg Hh vs us Qq Iv rr hyp
  obtain ⟨a, rfl, hz, q⟩ := hyp
  obtain ⟨u, rfl, t, rfl⟩ := vals1 rr
  exact PySem.P.repr_of_str ⟨.str _, Hh, Iv.tok _, ⟨_, rfl⟩, q⟩ hz
theorem call_reprN : CallR X (.builtin "repr") (fun xs H Q => xs = [.non] ∧ Q (.str "None") H) := by
  intro pn st sg Hh vs us Qq Iv rr hyp
  obtain ⟨rfl, q⟩ := hyp
  obtain ⟨u, rfl, rfl⟩ := vals1 rr
  exact PySem.P.repr_of_none ⟨.str _, Hh, Iv.tok _, ⟨_, rfl⟩, q⟩
/-- of a list of plain data -/
def rReprL (K : PySem.W.Frag) : List V → Hp → VK → Prop := fun xs H Q => ∃ (a : Addr) (ds : List PyData), xs = [.ref a] ∧ Dp K H (.ref a) (.list ds) ∧ (PyData.list ds).showable = true ∧ (PyData.list ds).hasDict = false ∧ (PyData.list ds).shown.length ≤ sizeLine ∧ (PyData.list ds).depth ≤ 60 ∧ Q (.str (PyData.list ds).shown) H
theorem call_reprL (hu : X.A.units + 64 < cLine) (hgd : X.A.guards = some []) : CallR X (.builtin "repr") (rReprL X.K) := by
  intro pn st sg Hh vs us Qq Iv rr hyp
  obtain ⟨a, ds, rfl, hd, hs, hn, hz, hdp, q⟩ := hyp
  rw [Vals.ref1 rr]
  obtain ⟨as, hr⟩ := Dp.reads Iv (.list ds) (.ref a) (.ref a) hd rfl
  refine repr_of_reads' hr hs (fun z => by rw [hn] at z; cases z) hgd (by omega) (fun _ _ e => e) (fun h' u tk hk => ?_) hz
  exact ⟨.str _, Hh, Iv.kept hk, ⟨_, rfl⟩, q⟩
/-! ### xs[::0 - 1] -/
def tBack (K : PySem.W.Frag) (te : TE) : TE := fun σ H Q => te σ H fun x H1 => ∃ a xs, x = .ref a ∧ SqL K H1 a xs ∧ ∀ p, H1 p = none → Q (.ref p) (upd H1 p (.lst xs.reverse))
theorem pe_back {e : Expr} {te : TE} {k j : Nat} {p1 p2 p3 p4 pos : Pos} (he : PE X e te) : PE X (.Subscript e (.Slice none none (some (.BinOp (.Constant (.int 0) k p1) .Sub (.Constant (.int 1) j p2) p4)) p3) pos) (tBack X.K te) := by
  refine ⟨fun pn st sg Hh Qq Iv hyp => ?_⟩
  refine Subscript_ (thn (he.run pn st sg Hh _ Iv hyp) fun v s1 ⟨x, H1, I1, r1, q1⟩ => ?_)
  obtain ⟨a, xs, ex, hx, q⟩ := q1
  subst ex
  cases r1
  have hst : PO X (some (.BinOp (.Constant (.int 0) k p1) .Sub (.Constant (.int 1) j p2) p4)) (tPart (tOp (rI0 fun i j => .int (i - j)) (tC (.int 0)) (tC (.int 1)))) := po_some (pe_op op_sub pe_int pe_int)
  refine wpAny_Slice (thn (po_none.run pn s1 sg H1 (fun o H2 => o = none ∧ H2 = H1) I1 ⟨rfl, rfl⟩) fun vl s2 ⟨l, H2, I2, pl, el, e2⟩ => ?_)
  subst el e2
  refine thn (po_none.run pn s2 sg H2 (fun o H3 => o = none ∧ H3 = H2) I2 ⟨rfl, rfl⟩) fun vu s3 ⟨u, H3, I3, pu, eu, e3⟩ => ?_
  subst eu e3
  refine thn (hst.run pn s3 sg H3 (fun o H4 => o = some (-1) ∧ H4 = H3) I3 ⟨0, 1, rfl, rfl, -1, rfl, rfl, rfl⟩) fun vs s4 ⟨o, H4, I4, ps, eo, e4⟩ => ?_
  subst eo e4
  have I5 : Inv X pn sg H4 { s4 with heap := s4.heap.push { cls := .type "slice", data := .fields #[vl, vu, vs] } } := I4.kept (t' := s4.toks) fun b ob qq => Heap.get?_push_of_some _ qq
  obtain ⟨its, r, ht, hz⟩ := I5.list hx
  have hlen := r.length
  show wpAny (model X.prog X.w) X.A (subscriptTail e (.Slice none none (some (.BinOp (.Constant (.int 0) k p1) .Sub (.Constant (.int 1) j p2) p4)) p3) (.ref a) (.ref s4.heap.objs.size)) (EP X pn sg Qq) X.xe { s4 with heap := s4.heap.push { cls := .type "slice", data := .fields #[vl, vu, vs] } }
  refine tail_any (ops := [.ref a, .ref s4.heap.objs.size]) ht.isList.typeIs (PySem.slot_list_getitem.lookup) ?_ (by with_unfolding_all rfl)
  refine wpAny_getItem_list_slice ht.isList (Heap.IsSliceOf.new _ vl vu vs) pl pu ps (by decide) ?_ (by rw [List.size_toArray]; omega)
  rw [PySem.W.krv_pick]
  refine ⟨.ref _, _, I5.laid (t' := s4.toks) (o := .lst xs.reverse) (fun b ob qq => Heap.get?_push_of_some _ qq) (Nat.le_refl _) ?_, rfl, q _ (I5.hok.fresh (Nat.le_refl _))⟩
  exact ⟨by rw [List.length_reverse]; exact hz, _, 0, r.reverse, Heap.get?_push_size _ rfl⟩
end
/-! ### enumerate(text) -/
/-- each sign in a new pair -/
def ItE (x : Str) : It :=
  ⟨fun i _ => i < x.cps.size, fun i H v H' => ∃ T c, v = .ref T ∧ H T = none ∧ x.cps[i]? = some c ∧ H' = upd H T (.tup [.int (i : Nat), .str ⟨#[c]⟩]), fun i _ => x.cps.size ≤ i⟩
theorem turn_enumS {P : Program} {w : World} {K : PySem.W.Frag} {elts : List Expr} {kk : Nat} {tpos : Pos} (e it : Addr) (x : Str) (t : Tok) :
    Turn P w K (.Tuple elts kk tpos) (ItE x) [e, it] e (fun i h => (∃ old, IsEnum h e it ((i : Nat) : Int) old) ∧ h.IsStrIter it (strIterType x) x t i ∧ e ≠ it ∧ i ≤ x.cps.size) where
  mem := by simp
  obj := fun i h st b hb => by
    obtain ⟨⟨old, he⟩, ⟨o, ho, hc, hd⟩, _, _⟩ := st
    simp only [List.mem_cons, List.not_mem_nil, or_false] at hb
    rcases hb with rfl | rfl
    · exact ⟨_, he, fun v q => nomatch q⟩
    · exact ⟨o, ho, fun v q => by rw [hd] at q; cases q⟩
  keep := fun i h h' st k => by
    obtain ⟨⟨old, he⟩, ⟨o, ho, r⟩, hne, hin⟩ := st
    exact ⟨⟨old, k e (by simp) _ he⟩, ⟨o, k it (by simp) o ho, r⟩, hne, hin⟩
  item := by
    intro X hP hw hK hc i pn st sg Hh Ee Iv hf stt hg
    subst hP hw hK
    obtain ⟨⟨old, he⟩, hit, hne, hin⟩ := stt
    have hel : e < st.heap.objs.size := Heap.lt_size he
    have hil : it < st.heap.objs.size := by obtain ⟨_, q, _⟩ := hit; exact Heap.lt_size q
    have D : Draws X.prog X.w X.A.in1 it [it] x.cps.size (fun i v => ∃ c u, x.cps[i]? = some c ∧ v = .str ⟨#[c]⟩ u) (fun i h => h.IsStrIter it (strIterType x) x t i) := by
      unfold strIterType
      split
      · exact Draws.strAscii (A := X.A.in1) (Iv.ok.hd hc) it x t
      · exact Draws.strWide (A := X.A.in1) (Iv.ok.hd hc) it x t
    refine wpAny_pyNext_enum_itemD D he hit hg hne (by simpa using hne) fun v h' tk hv ho hit' hT hsz hk => ?_
    obtain ⟨c, u, hcx, rfl⟩ := hv
    refine ⟨_, rfl, wpAny_letOwnedTupleGo_enum (s := { st with heap := h', toks := tk + 1 }) ho fun h'' he' sb => ?_⟩
    have hT2 : h''.get? st.heap.objs.size = some { cls := .type "tuple", data := .seq #[.int i tk, .str ⟨#[c]⟩ u] } := (sb.2 _ (Nat.ne_of_gt hel)).trans hT
    have new : ObjOk X.prog X.w (upd Hh st.heap.objs.size (.tup [.int (i : Nat), .str ⟨#[c]⟩])) h'' st.heap.objs.size (.tup [.int (i : Nat), .str ⟨#[c]⟩]) :=
      ⟨by show 2 ≤ sizeLine; decide, [.int i tk, .str ⟨#[c]⟩ u], .cons ⟨_, rfl⟩ (.cons ⟨_, rfl⟩ .nil), ⟨_, hT2, rfl, _, rfl⟩⟩
    have I1 : Inv X pn sg (upd Hh st.heap.objs.size (.tup [.int (i : Nat), .str ⟨#[c]⟩])) { st with heap := h'', toks := tk + 1 } := by
      refine Iv.turnedNew (ch := [e, it]) (fun b ob hb q => ?_) hf (Nat.le_refl _) new
      have h1 : b ≠ e := fun z => hb (by simp [z])
      have h2 : b ≠ it := fun z => hb (by simp [z])
      exact (sb.2 b h1).trans (hk b ob h1 h2 q)
    refine ⟨.ref st.heap.objs.size, _, I1, rfl, ⟨_, c, rfl, Iv.hok.fresh (Nat.le_refl _), hcx, rfl⟩, ⟨⟨.str ⟨#[c]⟩ u, ?_⟩, ?_, hne, hg⟩, fun b hb => ?_⟩
    · have e1 : ((i + 1 : Nat) : Int) = (i : Int) + 1 := by omega
      rw [e1]
      exact he'
    · obtain ⟨o, e1, e2⟩ := hit'
      exact ⟨o, (sb.2 it (Ne.symm hne)).trans e1, e2⟩
    · have hb' : b < st.heap.objs.size := by
        simp only [List.mem_cons, List.not_mem_nil, or_false] at hb
        rcases hb with rfl | rfl
        · exact hel
        · exact hil
      rw [upd_ne (Nat.ne_of_lt hb')]
      exact (hf b hb).1
  done := by
    intro X hP hw hK hc i pn st sg Hh Ee Iv hf stt hg
    subst hP hw hK
    obtain ⟨⟨old, he⟩, hit, hne, hin⟩ := stt
    obtain ⟨f0, f1, f2, f3, f4, f5⟩ := hf it (by simp)
    have hi : i = x.cps.size := Nat.le_antisymm hin hg
    subst hi
    have D : Draws X.prog X.w X.A.in1 it [it] x.cps.size (fun i v => ∃ c u, x.cps[i]? = some c ∧ v = .str ⟨#[c]⟩ u) (fun i h => h.IsStrIter it (strIterType x) x t i) := by
      unfold strIterType
      split
      · exact Draws.strAscii (A := X.A.in1) (Iv.ok.hd hc) it x t
      · exact Draws.strWide (A := X.A.in1) (Iv.ok.hd hc) it x t
    exact wpAny_pyNext_enum_endD D he hit fun h' eb => ⟨rfl, Iv.turned (t' := st.toks) (fun b o hb q => eb b o hb q) f0 f1 f3 f4 f5⟩
  self := fun A i s Q E stt h => by
    obtain ⟨⟨_, he⟩, _⟩ := stt
    exact wpAny_pyIter_enum he h
def iEnumS (ta : TA) : TI := fun σ H R => ta σ H fun vs H1 => ∃ x, vs = [.str x] ∧ R (ItE x) H1
theorem pi_enumS {X : Cx} {e : Expr} {ta : TA} {p pos tpos : Pos} {elts : List Expr} {kk : Nat} (hg : Gl X "enumerate") (hm : X.mg "enumerate" = none) (ha : PA X [e] ta) (hs : starEach [e] X.env = [(false, eval e X.env)] := by rfl) :
    PI X (.Tuple elts kk tpos) (.Call (.Name "enumerate" p) [e] [] pos) (iEnumS ta) := by
  refine ⟨fun pn st sg Hh R Iv hyp => ?_⟩
  refine Call_ (ld_blt Iv hg hm boot_enumerate (PyProof.Rows.callWith_type1 (thn (ha.run pos pn st sg Hh _ Iv hyp) fun us s1 ⟨vs, H1, I1, r1, q1⟩ => ?_) hs rfl))
  obtain ⟨x, rfl, q⟩ := q1
  cases r1 with
  | cons r rr =>
    cases rr
    obtain ⟨t, rfl⟩ := r
    refine call_enumerate_str fun h' he hit hsz hk => wpAny_pyIter_enum he ?_
    have I2 : Inv X pn sg H1 { s1 with heap := h' } := I1.kept (t' := s1.toks) hk
    refine ⟨s1.heap.objs.size + 1, [s1.heap.objs.size + 1, s1.heap.objs.size], _, _, H1, rfl, I2, turn_enumS (s1.heap.objs.size + 1) s1.heap.objs.size x t, ⟨⟨.none, he⟩, hit, Nat.succ_ne_self _, Nat.zero_le _⟩, fun b hb => ?_, q⟩
    have hle : s1.heap.objs.size ≤ b := by
      simp only [List.mem_cons, List.not_mem_nil, or_false] at hb
      rcases hb with rfl | rfl
      · exact Nat.le_add_right _ _
      · exact Nat.le_refl _
    exact I1.fpOk hle (I1.hok.fresh hle)
end K74
/-! the text by places; short words for calls -/
namespace K74
open PySem PySem.Spec PyProof.Rows L2
def topS (i : Nat) : Stmt := PySem.Challenge.pw_sideswaps_k74_whole_number_lists_parted.main.body.getD i (.Pass ⟨0, 0, 0, 0⟩)
abbrev s_is_whole : Stmt := topS 9
abbrev N_is_whole : List Str := ["value"]
abbrev p_is_whole : List Str := ["value"]
theorem sc_is_whole : FnScope N_is_whole p_is_whole (defScope s_is_whole) := ⟨rfl, rfl, rfl, by decide +kernel, rfl, by decide +kernel, by decide +kernel⟩
abbrev s_is_between : Stmt := topS 10
abbrev N_is_between : List Str := ["value", "low", "high"]
abbrev p_is_between : List Str := ["value", "low", "high"]
theorem sc_is_between : FnScope N_is_between p_is_between (defScope s_is_between) := ⟨rfl, rfl, rfl, by decide +kernel, rfl, by decide +kernel, by decide +kernel⟩
abbrev s_check_number : Stmt := topS 11
abbrev N_check_number : List Str := ["number", "low", "high"]
abbrev p_check_number : List Str := ["number", "low", "high"]
theorem sc_check_number : FnScope N_check_number p_check_number (defScope s_check_number) := ⟨rfl, rfl, rfl, by decide +kernel, rfl, by decide +kernel, by decide +kernel⟩
abbrev s_is_letters_alone : Stmt := topS 12
abbrev N_is_letters_alone : List Str := ["value"]
abbrev p_is_letters_alone : List Str := ["value"]
theorem sc_is_letters_alone : FnScope N_is_letters_alone p_is_letters_alone (defScope s_is_letters_alone) := ⟨rfl, rfl, rfl, by decide +kernel, rfl, by decide +kernel, by decide +kernel⟩
abbrev s_check_word : Stmt := topS 13
abbrev N_check_word : List Str := ["word"]
abbrev p_check_word : List Str := ["word"]
theorem sc_check_word : FnScope N_check_word p_check_word (defScope s_check_word) := ⟨rfl, rfl, rfl, by decide +kernel, rfl, by decide +kernel, by decide +kernel⟩
abbrev s_rises : Stmt := topS 14
abbrev N_rises : List Str := ["letters", "at"]
abbrev p_rises : List Str := ["letters"]
theorem sc_rises : FnScope N_rises p_rises (defScope s_rises) := ⟨rfl, rfl, rfl, by decide +kernel, rfl, by decide +kernel, by decide +kernel⟩
abbrev s_is_letters_in_order : Stmt := topS 15
abbrev N_is_letters_in_order : List Str := ["value"]
abbrev p_is_letters_in_order : List Str := ["value"]
theorem sc_is_letters_in_order : FnScope N_is_letters_in_order p_is_letters_in_order (defScope s_is_letters_in_order) := ⟨rfl, rfl, rfl, by decide +kernel, rfl, by decide +kernel, by decide +kernel⟩
abbrev s_check_joints : Stmt := topS 16
abbrev N_check_joints : List Str := ["joints"]
abbrev p_check_joints : List Str := ["joints"]
theorem sc_check_joints : FnScope N_check_joints p_check_joints (defScope s_check_joints) := ⟨rfl, rfl, rfl, by decide +kernel, rfl, by decide +kernel, by decide +kernel⟩
abbrev s_check_size : Stmt := topS 19
abbrev N_check_size : List Str := ["size"]
abbrev p_check_size : List Str := ["size"]
theorem sc_check_size : FnScope N_check_size p_check_size (defScope s_check_size) := ⟨rfl, rfl, rfl, by decide +kernel, rfl, by decide +kernel, by decide +kernel⟩
abbrev s_is_program : Stmt := topS 20
abbrev N_is_program : List Str := ["size", "value", "place"]
abbrev p_is_program : List Str := ["size", "value"]
theorem sc_is_program : FnScope N_is_program p_is_program (defScope s_is_program) := ⟨rfl, rfl, rfl, by decide +kernel, rfl, by decide +kernel, by decide +kernel⟩
abbrev s_check_program : Stmt := topS 21
abbrev N_check_program : List Str := ["size", "program"]
abbrev p_check_program : List Str := ["size", "program"]
theorem sc_check_program : FnScope N_check_program p_check_program (defScope s_check_program) := ⟨rfl, rfl, rfl, by decide +kernel, rfl, by decide +kernel, by decide +kernel⟩
abbrev s_moved_by : Stmt := topS 22
abbrev N_moved_by : List Str := ["size", "program", "found", "place"]
abbrev p_moved_by : List Str := ["size", "program"]
theorem sc_moved_by : FnScope N_moved_by p_moved_by (defScope s_moved_by) := ⟨rfl, rfl, rfl, by decide +kernel, rfl, by decide +kernel, by decide +kernel⟩
abbrev s_goals_of : Stmt := topS 23
abbrev N_goals_of : List Str := ["moves", "found", "goal", "place"]
abbrev p_goals_of : List Str := ["moves"]
theorem sc_goals_of : FnScope N_goals_of p_goals_of (defScope s_goals_of) := ⟨rfl, rfl, rfl, by decide +kernel, rfl, by decide +kernel, by decide +kernel⟩
abbrev s_last_unlike : Stmt := topS 24
abbrev N_last_unlike : List Str := ["one", "other", "low", "high", "found", "place"]
abbrev p_last_unlike : List Str := ["one", "other"]
theorem sc_last_unlike : FnScope N_last_unlike p_last_unlike (defScope s_last_unlike) := ⟨rfl, rfl, rfl, by decide +kernel, rfl, by decide +kernel, by decide +kernel⟩
abbrev s_rounds_of : Stmt := topS 26
abbrev N_rounds_of : List Str := ["moves", "seen", "found", "first", "here", "lot"]
abbrev p_rounds_of : List Str := ["moves"]
theorem sc_rounds_of : FnScope N_rounds_of p_rounds_of (defScope s_rounds_of) := ⟨rfl, rfl, rfl, by decide +kernel, rfl, by decide +kernel, by decide +kernel⟩
abbrev s_often : Stmt := topS 27
abbrev N_often : List Str := ["moves", "times", "found", "lot", "at", "place"]
abbrev p_often : List Str := ["moves", "times"]
theorem sc_often : FnScope N_often p_often (defScope s_often) := ⟨rfl, rfl, rfl, by decide +kernel, rfl, by decide +kernel, by decide +kernel⟩
abbrev s_common_times : Stmt := topS 28
abbrev N_common_times : List Str := ["numbers", "found", "number"]
abbrev p_common_times : List Str := ["numbers"]
theorem sc_common_times : FnScope N_common_times p_common_times (defScope s_common_times) := ⟨rfl, rfl, rfl, by decide +kernel, rfl, by decide +kernel, by decide +kernel⟩
abbrev s_order_of : Stmt := topS 29
abbrev N_order_of : List Str := ["size", "program", "lot"]
abbrev p_order_of : List Str := ["size", "program"]
theorem sc_order_of : FnScope N_order_of p_order_of (defScope s_order_of) := ⟨rfl, rfl, rfl, by decide +kernel, rfl, by decide +kernel, by decide +kernel⟩
abbrev s_check_pair : Stmt := topS 32
abbrev N_check_pair : List Str := ["word", "joints"]
abbrev p_check_pair : List Str := ["word", "joints"]
theorem sc_check_pair : FnScope N_check_pair p_check_pair (defScope s_check_pair) := ⟨rfl, rfl, rfl, by decide +kernel, rfl, by decide +kernel, by decide +kernel⟩
abbrev s_parts_of : Stmt := topS 33
abbrev N_parts_of : List Str := ["word", "joints", "found", "pieces", "letter"]
abbrev p_parts_of : List Str := ["word", "joints"]
theorem sc_parts_of : FnScope N_parts_of p_parts_of (defScope s_parts_of) := ⟨rfl, rfl, rfl, by decide +kernel, rfl, by decide +kernel, by decide +kernel⟩
abbrev s_check_numbers : Stmt := topS 34
abbrev N_check_numbers : List Str := ["count", "numbers"]
abbrev p_check_numbers : List Str := ["count", "numbers"]
theorem sc_check_numbers : FnScope N_check_numbers p_check_numbers (defScope s_check_numbers) := ⟨rfl, rfl, rfl, by decide +kernel, rfl, by decide +kernel, by decide +kernel⟩
abbrev s_turn_of : Stmt := topS 35
abbrev N_turn_of : List Str := ["numbers", "number"]
abbrev p_turn_of : List Str := ["numbers"]
theorem sc_turn_of : FnScope N_turn_of p_turn_of (defScope s_turn_of) := ⟨rfl, rfl, rfl, by decide +kernel, rfl, by decide +kernel, by decide +kernel⟩
abbrev s_put_together : Stmt := topS 36
abbrev N_put_together : List Str := ["found", "pieces", "moves", "turn", "word", "at", "place"]
abbrev p_put_together : List Str := ["found", "pieces", "moves", "turn"]
theorem sc_put_together : FnScope N_put_together p_put_together (defScope s_put_together) := ⟨rfl, rfl, rfl, by decide +kernel, rfl, by decide +kernel, by decide +kernel⟩
abbrev s_done_by_numbers : Stmt := topS 37
abbrev N_done_by_numbers : List Str := ["word", "joints", "numbers", "found", "pieces"]
abbrev p_done_by_numbers : List Str := ["word", "joints", "numbers"]
theorem sc_done_by_numbers : FnScope N_done_by_numbers p_done_by_numbers (defScope s_done_by_numbers) := ⟨rfl, rfl, rfl, by decide +kernel, rfl, by decide +kernel, by decide +kernel⟩
abbrev s_done_by_numbers_often : Stmt := topS 38
abbrev N_done_by_numbers_often : List Str := ["word", "joints", "numbers", "times", "found", "pieces", "moves"]
abbrev p_done_by_numbers_often : List Str := ["word", "joints", "numbers", "times"]
theorem sc_done_by_numbers_often : FnScope N_done_by_numbers_often p_done_by_numbers_often (defScope s_done_by_numbers_often) := ⟨rfl, rfl, rfl, by decide +kernel, rfl, by decide +kernel, by decide +kernel⟩
abbrev s_numbers_parting : Stmt := topS 39
abbrev N_numbers_parting : List Str := ["joints", "count", "one", "other", "place", "bodies", "letter"]
abbrev p_numbers_parting : List Str := ["joints", "count", "one", "other"]
theorem sc_numbers_parting : FnScope N_numbers_parting p_numbers_parting (defScope s_numbers_parting) := ⟨rfl, rfl, rfl, by decide +kernel, rfl, by decide +kernel, by decide +kernel⟩
abbrev s_numbers_order : Stmt := topS 40
abbrev N_numbers_order : List Str := ["count", "numbers", "turns", "step", "lot"]
abbrev p_numbers_order : List Str := ["count", "numbers"]
theorem sc_numbers_order : FnScope N_numbers_order p_numbers_order (defScope s_numbers_order) := ⟨rfl, rfl, rfl, by decide +kernel, rfl, by decide +kernel, by decide +kernel⟩
abbrev s_hash : Stmt := topS 42
abbrev N_hash : List Str := ["_law_seed", "_law_index", "_law_mixed"]
abbrev p_hash : List Str := ["_law_seed", "_law_index"]
theorem sc_hash : FnScope N_hash p_hash (defScope s_hash) := ⟨rfl, rfl, rfl, by decide +kernel, rfl, by decide +kernel, by decide +kernel⟩
abbrev s_random : Stmt := topS 43
abbrev N_random : List Str := ["_law_generator_here", "_law_bound", "_law_drawn", "_law_turn_here"]
abbrev p_random : List Str := ["_law_generator_here", "_law_bound"]
theorem sc_random : FnScope N_random p_random (defScope s_random) := ⟨rfl, rfl, rfl, by decide +kernel, rfl, by decide +kernel, by decide +kernel⟩
abbrev s_cell : Stmt := topS 44
abbrev N_cell : List Str := ["_law_script", "_law_index"]
abbrev p_cell : List Str := ["_law_script", "_law_index"]
theorem sc_cell : FnScope N_cell p_cell (defScope s_cell) := ⟨rfl, rfl, rfl, by decide +kernel, rfl, by decide +kernel, by decide +kernel⟩
abbrev s_generator : Stmt := topS 45
abbrev N_generator : List Str := ["_law_script", "_law_index", "_law_seed"]
abbrev p_generator : List Str := ["_law_script", "_law_index"]
theorem sc_generator : FnScope N_generator p_generator (defScope s_generator) := ⟨rfl, rfl, rfl, by decide +kernel, rfl, by decide +kernel, by decide +kernel⟩
abbrev s_swapped : Stmt := topS 46
abbrev N_swapped : List Str := ["_law_word", "_law_place"]
abbrev p_swapped : List Str := ["_law_word", "_law_place"]
theorem sc_swapped : FnScope N_swapped p_swapped (defScope s_swapped) := ⟨rfl, rfl, rfl, by decide +kernel, rfl, by decide +kernel, by decide +kernel⟩
abbrev s_moved : Stmt := topS 47
abbrev N_moved : List Str := ["_law_moves_here", "_law_place"]
abbrev p_moved : List Str := ["_law_moves_here", "_law_place"]
theorem sc_moved : FnScope N_moved p_moved (defScope s_moved) := ⟨rfl, rfl, rfl, by decide +kernel, rfl, by decide +kernel, by decide +kernel⟩
abbrev s_moves : Stmt := topS 48
abbrev N_moves : List Str := ["_law_size_told", "_law_places", "_law_found", "_law_place"]
abbrev p_moves : List Str := ["_law_size_told", "_law_places"]
theorem sc_moves : FnScope N_moves p_moves (defScope s_moves) := ⟨rfl, rfl, rfl, by decide +kernel, rfl, by decide +kernel, by decide +kernel⟩
abbrev s_program : Stmt := topS 49
abbrev N_program : List Str := ["_law_generator_here", "_law_size_told", "_law_many", "_law_turn_here"]
abbrev p_program : List Str := ["_law_generator_here", "_law_size_told", "_law_many"]
theorem sc_program : FnScope N_program p_program (defScope s_program) := ⟨rfl, rfl, rfl, by decide +kernel, rfl, by decide +kernel, by decide +kernel⟩
abbrev s_all : Stmt := topS 50
abbrev N_all : List Str := ["_law_letters", "_law_size_told", "_law_found", "_law_turn_here", "_law_longer", "_law_word", "_law_letter"]
abbrev p_all : List Str := ["_law_letters", "_law_size_told"]
theorem sc_all : FnScope N_all p_all (defScope s_all) := ⟨rfl, rfl, rfl, by decide +kernel, rfl, by decide +kernel, by decide +kernel⟩
abbrev s_count : Stmt := topS 51
abbrev N_count : List Str := ["_law_word", "_law_joints_told", "_law_letter"]
abbrev p_count : List Str := ["_law_word", "_law_joints_told"]
theorem sc_count : FnScope N_count p_count (defScope s_count) := ⟨rfl, rfl, rfl, by decide +kernel, rfl, by decide +kernel, by decide +kernel⟩
abbrev s_led : Stmt := topS 52
abbrev N_led : List Str := ["_law_word", "_law_joints_told", "_law_items", "_law_item", "_law_place", "_law_at", "_law_letter"]
abbrev p_led : List Str := ["_law_word", "_law_joints_told", "_law_items"]
theorem sc_led : FnScope N_led p_led (defScope s_led) := ⟨rfl, rfl, rfl, by decide +kernel, rfl, by decide +kernel, by decide +kernel⟩
abbrev s_first : Stmt := topS 53
abbrev N_first : List Str := ["_law_joints_told", "_law_many", "_law_low", "_law_high", "_law_letters", "_law_size_told", "_law_word"]
abbrev p_first : List Str := ["_law_joints_told", "_law_many", "_law_low", "_law_high", "_law_letters"]
theorem sc_first : FnScope N_first p_first (defScope s_first) := ⟨rfl, rfl, rfl, by decide +kernel, rfl, by decide +kernel, by decide +kernel⟩
abbrev s_turn : Stmt := topS 54
abbrev N_turn : List Str := ["_law_items", "_law_many", "_law_item"]
abbrev p_turn : List Str := ["_law_items", "_law_many"]
theorem sc_turn : FnScope N_turn p_turn (defScope s_turn) := ⟨rfl, rfl, rfl, by decide +kernel, rfl, by decide +kernel, by decide +kernel⟩
abbrev s_two : Stmt := topS 55
abbrev N_two : List Str := ["_law_generator_here", "_law_many", "_law_low", "_law_way", "_law_place"]
abbrev p_two : List Str := ["_law_generator_here", "_law_many"]
theorem sc_two : FnScope N_two p_two (defScope s_two) := ⟨rfl, rfl, rfl, by decide +kernel, rfl, by decide +kernel, by decide +kernel⟩
abbrev s_small_right : Stmt := topS 56
abbrev N_small_right : List Str := ["_law_generator_here", "_law_joints_told", "_law_letters", "_law_many", "_law_low", "_law_high", "_law_due"]
abbrev p_small_right : List Str := ["_law_generator_here"]
theorem sc_small_right : FnScope N_small_right p_small_right (defScope s_small_right) := ⟨rfl, rfl, rfl, by decide +kernel, rfl, by decide +kernel, by decide +kernel⟩
abbrev s_great_right : Stmt := topS 57
abbrev N_great_right : List Str := ["_law_generator_here", "_law_many", "_law_low", "_law_high", "_law_joints_told", "_law_told", "_law_unlike"]
abbrev p_great_right : List Str := ["_law_generator_here", "_law_many"]
theorem sc_great_right : FnScope N_great_right p_great_right (defScope s_great_right) := ⟨rfl, rfl, rfl, by decide +kernel, rfl, by decide +kernel, by decide +kernel⟩
abbrev s_common : Stmt := topS 58
abbrev N_common : List Str := ["_law_one_told", "_law_other_told", "_law_turn_here"]
abbrev p_common : List Str := ["_law_one_told", "_law_other_told"]
theorem sc_common : FnScope N_common p_common (defScope s_common) := ⟨rfl, rfl, rfl, by decide +kernel, rfl, by decide +kernel, by decide +kernel⟩
abbrev s_orders_right : Stmt := topS 59
abbrev N_orders_right : List Str := ["_law_generator_here", "_law_many", "_law_items", "_law_order", "_law_turns", "_law_first_here", "_law_word", "_law_place", "_law_long", "_law_at"]
abbrev p_orders_right : List Str := ["_law_generator_here", "_law_many"]
theorem sc_orders_right : FnScope N_orders_right p_orders_right (defScope s_orders_right) := ⟨rfl, rfl, rfl, by decide +kernel, rfl, by decide +kernel, by decide +kernel⟩
abbrev s_law : Stmt := topS 60
abbrev N_law : List Str := ["_law_script", "_law_index", "_law_generator_here", "_law_every", "_law_told", "_law_far"]
abbrev p_law : List Str := ["_law_script"]
theorem sc_law : FnScope N_law p_law (defScope s_law) := ⟨rfl, rfl, rfl, by decide +kernel, rfl, by decide +kernel, by decide +kernel⟩
/-! ### names of the module -/
def cLETTERS : List Nat := (List.range 26).map (· + 97)
structure Bt (mg : Str → Option Value) : Prop where
  n_len : mg "len" = none
  n_range : mg "range" = none
  n_isinstance : mg "isinstance" = none
  n_int : mg "int" = none
  n_str : mg "str" = none
  n_list : mg "list" = none
  n_bool : mg "bool" = none
  n_sum : mg "sum" = none
  n_enumerate : mg "enumerate" = none
  n_min : mg "min" = none
  n_max : mg "max" = none
  n_repr : mg "repr" = none
  g_gcd : mg "gcd" = some (.builtin "math.gcd")
  gLETTERS : ∃ u, mg "LETTERS" = some u ∧ RelV (sv cLETTERS) u
  gMOST_SIZE : ∃ u, mg "MOST_SIZE" = some u ∧ RelV (.int 60) u
  gMOST_COUNT : ∃ u, mg "MOST_COUNT" = some u ∧ RelV (.int 60) u
section
variable {X : Cx}
theorem pe_gk {x : Str} {v : V} {pos : Pos} (h : ∃ u, X.mg x = some u ∧ RelV v u) (hg : Gl X x) (hd : (x == ("__debug__" : Str)) = false := by decide) : PE X (.Name x pos) (tC v) := by
  obtain ⟨u, hm, r⟩ := h
  exact pe_glob hg hm r hd
end
theorem hu64 {A : Around} {k : Nat} (hr : Room k A) : A.units + 64 < cLine := by
  have := hr.un
  omega
/-! ### a def that keeps its promise, as callers see it -/
section
variable (P : Program) (w : World) (K : PySem.W.Frag) (mg : Str → Option Value) (base : Heap)
def Cal (x : Str) (ps : List Str) (k : Nat) (sp : Sp) : Prop :=
  ∃ f fd, mg x = some (.ref f) ∧ PySem.W.keepIn K (.ref f) = true ∧ Binds K fd ps [] ∧ FnOk P w K mg base CX0 k f fd ps sp ∧ ∃ (oc : Value) (od : Option Addr) (osl : Array (Option Value)), K.lookup f = some ⟨oc, od, .func fd, osl⟩
def CalK (x : Str) (ps ks : List Str) (g : {α : Type} → List α → List α) (k : Nat) (sp : Sp) : Prop :=
  ∃ f fd, mg x = some (.ref f) ∧ PySem.W.keepIn K (.ref f) = true ∧ KBinds K fd ps ks (fun us ws => match us with | [] => g ws | _ :: _ => []) (fun us ws => match us with | [] => g ws | _ :: _ => []) ∧ FnOk P w K mg base CX0 k f fd ps sp
/-- the def as it stands -/
def Dfn (x : Str) (st : Stmt) (ps : List Str) : Prop := ∃ f fd, mg x = some (.ref f) ∧ Fun K x x st f fd ∧ Binds K fd ps []
end
theorem Dfn.cal {P : Program} {w : World} {K : PySem.W.Frag} {mg : Str → Option Value} {base : Heap} {x : Str} {st : Stmt} {N ps : List Str} {k : Nat} {sp : Sp} (D : Dfn K mg x st ps) (S : FnScope N ps (defScope st)) (len : ∀ vs H Q E, sp vs H Q E → vs.length = ps.length)
    (body : ∀ (f : Addr) (cdv : Value) (A : Around) (outer : List Env) (s : Shared) (H : Hp) (vs : List V) (Q : VK) (E : XK), Room k (A.deeper (envOfC x (defScope st) s.heap.objs.size f cdv)) → sp vs H Q E →
      ∃ t, PSs (cxOf CX0 P w K mg base N x (defScope st) f cdv A outer s H E).nox (defBody st) t ∧ t { nx := fun _ H' => Q .non H', rt := Q } (start N vs) H) : Cal P w K mg base x ps (k + 1) sp := by
  obtain ⟨f, fd, g, F, b⟩ := D
  obtain ⟨oc, od, _, _, _, _, _, _, osl, _, lk, _⟩ := F.ex
  exact ⟨f, fd, g, F.kp, b, F.ok S len (body f), oc, od, osl, lk⟩
theorem calK_of {P : Program} {w : World} {K : PySem.W.Frag} {mg : Str → Option Value} {base : Heap} {x : Str} {st : Stmt} {ps ks : List Str} {g : {α : Type} → List α → List α} {k : Nat} {sp : Sp} (D : Dfn K mg x st ps) (C : Cal P w K mg base x ps k sp)
    (kb : ∀ (kV doc pm : Value) (an : Option Addr) (cdv ct : Value), KBinds K (PySem.W.fnOf x x (defArgs st) (defBody st) (defScope st) .none kV doc pm an cdv ct) ps ks (fun us ws => match us with | [] => g ws | _ :: _ => []) (fun us ws => match us with | [] => g ws | _ :: _ => [])) : CalK P w K mg base x ps ks g k sp := by
  obtain ⟨f, fd, gm, F, b⟩ := D
  obtain ⟨f2, fd2, gm2, kp, b2, ok, oc, od, osl, lk2⟩ := C
  rw [gm] at gm2
  cases gm2
  obtain ⟨_, _, kV, doc, pm, an, cdv, ct, _, rfl, lk, _⟩ := F.ex
  rw [lk] at lk2
  cases lk2
  exact ⟨f, _, gm, kp, kb kV doc pm an cdv ct, ok⟩
theorem dfn_mk {K : PySem.W.Frag} {h : Heap} {mg : Str → Option Value} {x : Str} {st : Stmt} {ps : List Str} {f : Addr} {oc : Value} {od an : Option Addr} {osl : Array (Option Value)} {kV doc pm cdv ct : Value} (X : K.In h) (G : h.Ns mainGlobals mg) (a : PySem.W.nsIn K mainGlobals x = some (some (.ref f)))
    (l : K.lookup f = some ⟨oc, od, .func (PySem.W.fnOf x x (defArgs st) (defBody st) (defScope st) .none kV doc pm an cdv ct), osl⟩) (c : PySem.W.codeIn K cdv x = true) (k : PySem.W.keepIn K (.ref f) = true)
    (hb : ∀ (kV doc pm : Value) (an : Option Addr) (cdv ct : Value) (us : List Value), us.length = ps.length → bindArgs (PySem.W.fnOf x x (defArgs st) (defBody st) (defScope st) .none kV doc pm an cdv ct) ⟨us, []⟩ = pure (ps.zip us)) : Dfn K mg x st ps :=
  ⟨f, _, PySem.W.mg_of X G a, fun_mk l c k, (fun_mk l c k).binds hb⟩
section
variable {X : Cx}
theorem pe_cal {x : Str} {ps : List Str} {j : Nat} {sp : Sp} {p pos : Pos} {e : Expr} {es : List Expr} {t : TA} (c : Cal X.prog X.w X.K X.mg X.base x ps j sp) (hr : Room j X.A) (hg : Gl X x) (ha : PA X (e :: es) t)
    (hdb : (x == ("__debug__" : Str)) = false := by decide) (he : starEach (e :: es) X.env = (false, eval e X.env) :: starEach es X.env := by rfl) (hpl : (backTo pos (starEach es X.env)).any (·.1) = false := by rfl) : PE X (.Call (.Name x p) (e :: es) [] pos) (tCall sp [] E0 t) := by
  obtain ⟨f, fd, g, kp, b, F, _⟩ := c
  exact pe_call F hr hg g kp b .nil pass0 ha hdb he hpl
theorem pe_calK {x : Str} {ps ks : List Str} {j : Nat} {sp : Sp} {p pos : Pos} {kws : List Keyword} {t : TA} {g : {α : Type} → List α → List α} (c : CalK X.prog X.w X.K X.mg X.base x ps ks g j sp) (hr : Room j X.A) (hg : Gl X x) (ha : PK X kws t)
    (hdb : (x == ("__debug__" : Str)) = false := by decide) (hall : (backToKw pos (keywordEach kws X.env)).all (·.1.isSome) = true := by rfl) (hks : (backToKw pos (keywordEach kws X.env)).filterMap (·.1) = ks := by rfl)
    (hpl : ((backTo pos (starEach [] X.env)).any (·.1) || (backToKw pos (keywordEach kws X.env)).any (·.1.isNone)) = false := by rfl) : PE X (.Call (.Name x p) [] kws pos) (fun σ H Q => t σ H fun zs H1 => sp (g zs) H1 Q E0) := by
  obtain ⟨f, fd, gm, kp, b, F⟩ := c
  refine ⟨fun pn st sg Hh Qq Iv hyp => ?_⟩
  refine wpAny_Call_Name_kw (ld_glob Iv hg gm ?_ hdb)
  refine PySem.W.callWith_KW0 (h₀ := X.base) Iv.ok.mod.kin kp hall (thn (ha.run pos pn st sg Hh _ Iv hyp) fun ws s2 ⟨zs, H2, I2, rz, q2⟩ => ⟨I2.kIn, ?_⟩) hpl
  rw [hks]
  exact run_fnk (us := []) (vs := []) F hr b pass0 I2 .nil rz q2
end
end K74
/-! readings: own operations on texts as lists of codes; what they evaluate to -/
namespace K74
open PySem PySem.Spec PyProof.Rows L2 Evl
/-! ### lists of numbers, of texts -/
def ni (n : Nat) : V := V.int (n : Int)
def iv (l : List Nat) : List V := l.map ni
def svs (l : List (List Nat)) : List V := l.map sv
theorem iv_len (l : List Nat) : (iv l).length = l.length := List.length_map ..
theorem svs_len (l : List (List Nat)) : (svs l).length = l.length := List.length_map ..
theorem iv_get {l : List Nat} {i x : Nat} (h : l[i]? = some x) : (iv l)[i]? = some (.int (x : Int)) := by
  unfold iv
  rw [List.getElem?_map, h]
  rfl
theorem iv_at {l : List Nat} {i : Nat} {v : V} (h : (iv l)[i]? = some v) : ∃ x, l[i]? = some x ∧ v = .int (x : Int) := by
  unfold iv at h
  rw [List.getElem?_map] at h
  cases e : l[i]? with
  | none => rw [e] at h; cases h
  | some x => rw [e] at h; exact ⟨x, rfl, (Option.some.inj h).symm⟩
theorem svs_get {l : List (List Nat)} {i : Nat} {x : List Nat} (h : l[i]? = some x) : (svs l)[i]? = some (sv x) := by
  unfold svs
  rw [List.getElem?_map, h]
  rfl
theorem svs_at {l : List (List Nat)} {i : Nat} {v : V} (h : (svs l)[i]? = some v) : ∃ x, l[i]? = some x ∧ v = sv x := by
  unfold svs at h
  rw [List.getElem?_map] at h
  cases e : l[i]? with
  | none => rw [e] at h; cases h
  | some x => rw [e] at h; exact ⟨x, rfl, (Option.some.inj h).symm⟩
theorem iv_app (a b : List Nat) : iv (a ++ b) = iv a ++ iv b := List.map_append
theorem iv_set (l : List Nat) (i x : Nat) : iv (l.set i x) = (iv l).set i (.int (x : Int)) := List.map_set
theorem svs_app (a b : List (List Nat)) : svs (a ++ b) = svs a ++ svs b := List.map_append
theorem svs_set (l : List (List Nat)) (i : Nat) (x : List Nat) : svs (l.set i x) = (svs l).set i (sv x) := List.map_set
theorem iv_inj : ∀ {a b : List Nat}, iv a = iv b → a = b
  | [], [], _ => rfl
  | [], _ :: _, h => absurd h (by simp [iv])
  | _ :: _, [], h => absurd h (by simp [iv])
  | x :: a, y :: b, h => by
    have h : V.int (x : Int) :: iv a = V.int (y : Int) :: iv b := h
    have h1 : V.int (x : Int) = V.int (y : Int) := (List.cons.inj h).1
    have h2 := (List.cons.inj h).2
    have e : x = y := by
      have := V.int.inj h1
      omega
    rw [e, iv_inj h2]
theorem mkS_inj {a b : List Nat} (h : mkS a = mkS b) : a = b := by
  have h1 : a.toArray = b.toArray := Str.mk.inj h
  have h2 := congrArg Array.toList h1
  simpa using h2
theorem sv_inj {a b : List Nat} (h : sv a = sv b) : a = b := mkS_inj (V.str.inj h)
theorem mkS_len (a : List Nat) : (mkS a).length = a.length := by simp [mkS, Str.length]
theorem mkS_cps (a : List Nat) : (mkS a).cps.toList = a := by simp [mkS]
theorem mkS_app (a b : List Nat) : mkS a ++ mkS b = mkS (a ++ b) := by
  show (⟨a.toArray ++ b.toArray⟩ : Str) = ⟨(a ++ b).toArray⟩
  simp
theorem decide_sv (a b : List Nat) : decide (sv a = sv b) = decide (a = b) := by
  by_cases h : a = b
  · subst h
    simp
  · rw [decide_eq_false h, decide_eq_false fun z => h (sv_inj z)]
theorem decide_iv (a b : List Nat) : decide (iv a = iv b) = decide (a = b) := by
  by_cases h : a = b
  · subst h
    simp
  · rw [decide_eq_false h, decide_eq_false fun z => h (iv_inj z)]
/-! ### operations on texts -/
def rAddT : R2 := fun x y H Q => ∃ a b : List Nat, x = sv a ∧ y = sv b ∧ a.length + b.length ≤ 100000 ∧ Q (sv (a ++ b)) H
def rIxT : R2 := fun x y H Q => ∃ (l : List Nat) (i c : Nat), x = sv l ∧ y = .int (i : Int) ∧ l[i]? = some c ∧ l.length ≤ 100000 ∧ Q (sv [c]) H
def rInT : R2 := fun x y H Q => ∃ (c : Nat) (l : List Nat), x = sv [c] ∧ y = sv l ∧ Q (.bl (decide (c ∈ l))) H
def rNinT : R2 := fun x y H Q => ∃ (c : Nat) (l : List Nat), x = sv [c] ∧ y = sv l ∧ Q (.bl (!decide (c ∈ l))) H
def rGeT : R2 := fun x y H Q => ∃ a b : List Nat, x = sv a ∧ y = sv b ∧ Q (.bl (!decide (a < b))) H
def rLenT : List V → Hp → VK → Prop := fun xs H Q => ∃ a : List Nat, xs = [sv a] ∧ a.length ≤ 100000 ∧ Q (.int (a.length : Int)) H
def cutT (l : List Nat) (lo hi : Option Int) : List Nat := (l.drop (HT.sIx l.length 0 lo)).take (HT.sIx l.length l.length hi - HT.sIx l.length 0 lo)
def rSlT : V → Option Int → Option Int → Hp → VK → Prop := fun x lo hi H Q => ∃ l : List Nat, x = sv l ∧ l.length ≤ 100000 ∧ Q (sv (cutT l lo hi)) H
section
variable {X : Cx}
theorem op_addT : OpR X (binaryOp .Add) rAddT := fun pn st sg Hh x y v u Qq Iv rx ry ⟨a, b, ex, ey, hz, q⟩ =>
  op_add_str pn st sg Hh x y v u Qq Iv rx ry ⟨mkS a, mkS b, ex, ey, by rw [mkS_len, mkS_len]; exact sz_of hz, by rw [mkS_app]; exact q⟩
theorem ix_T : IxR X rIxT := fun value slice pn st sg Hh x y v u Qq Iv rx ry ⟨l, i, c, ex, ey, hi, hz, q⟩ hs =>
  ix_str value slice pn st sg Hh x y v u Qq Iv rx ry ⟨mkS l, (i : Int), c, ex, ey, by rw [mkS_len]; exact sz_of hz, by
    rw [mkS_cps]
    have hl : i < l.length := (List.getElem?_eq_some_iff.mp hi).1
    unfold atI
    first
      | (rw [ixN_nat hl]; exact hi)
      | (unfold atI; simp [hi, hl])
    , q⟩ hs
theorem op_inT : OpR X (compareOp .In) rInT := fun pn st sg Hh x y v u Qq Iv rx ry ⟨c, l, ex, ey, q⟩ =>
  op_in_sign pn st sg Hh x y v u Qq Iv rx ry ⟨c, mkS l, ex, ey, by rw [mkS_cps]; exact q⟩
theorem op_ninT : OpR X (compareOp .NotIn) rNinT := fun pn st sg Hh x y v u Qq Iv rx ry ⟨c, l, ex, ey, q⟩ =>
  op_notIn_sign pn st sg Hh x y v u Qq Iv rx ry ⟨c, mkS l, ex, ey, by rw [mkS_cps]; exact q⟩
theorem op_geT : OpR X (compareOp .GtE) rGeT := fun pn st sg Hh x y v u Qq Iv rx ry ⟨a, b, ex, ey, q⟩ =>
  op_ge_str pn st sg Hh x y v u Qq Iv rx ry ⟨mkS a, mkS b, ex, ey, by rw [mkS_cps, mkS_cps]; exact q⟩
theorem call_lenT : CallR X (.builtin "len") rLenT := fun pn st sg Hh xs us Qq Iv rr ⟨a, ex, hz, q⟩ =>
  call_len_str pn st sg Hh xs us Qq Iv rr ⟨mkS a, ex, by rw [mkS_len]; exact sz_of hz, by rw [mkS_len]; exact q⟩
theorem sl_T : SlR X rSlT := fun pn st sg Hh x v vl vu lo hi sl Qq Iv rx hs pl pu ⟨l, ex, hz, q⟩ =>
  sl_str pn st sg Hh x v vl vu lo hi sl Qq Iv rx hs pl pu ⟨mkS l, ex, by rw [mkS_len]; exact sz_of hz, by
    have e : cutS (mkS l) lo hi = mkS (cutT l lo hi) := by
      unfold cutS cutT
      rw [mkS_cps, mkS_len]
      rfl
    rw [e]
    exact q⟩
end
theorem cut_lo {α : Type} (xs : List α) (k : Nat) : (xs.drop (HT.sIx xs.length 0 (some (k : Int)))).take (HT.sIx xs.length xs.length none - HT.sIx xs.length 0 (some (k : Int))) = xs.drop k := by
  rw [HT.sIx_nat, HT.sIx_none]
  by_cases h : k ≤ xs.length
  · rw [Nat.min_eq_left h]
    exact List.take_of_length_le (by rw [List.length_drop]; omega)
  · rw [Nat.min_eq_right (by omega), List.drop_eq_nil_of_le (Nat.le_refl _), List.drop_eq_nil_of_le (by omega)]
    simp
theorem cut_hi {α : Type} (xs : List α) (k : Nat) : (xs.drop (HT.sIx xs.length 0 none)).take (HT.sIx xs.length xs.length (some (k : Int)) - HT.sIx xs.length 0 none) = xs.take k := by
  rw [HT.sIx_nat, HT.sIx_none, List.drop_zero, Nat.sub_zero]
  by_cases h : k ≤ xs.length
  · rw [Nat.min_eq_left h]
  · rw [Nat.min_eq_right (by omega), List.take_of_length_le (Nat.le_refl _), List.take_of_length_le (by omega)]
/-! ### what they evaluate to -/
section
variable {K : PySem.W.Frag} {σ : L2.St} {H H' : Hp} {ta tb te tx : TE} {x y z v : V} {r : R2}
theorem el_rg {n : Nat} (h : Ev ta σ H (.int (n : Int))) (hn : n ≤ 1000) : EvL (tLstRg (tRg1 ta)) σ H (iv (List.range n)) := fun H1 e Q q =>
  h H1 e _ fun H2 e2 => ⟨(n : Int), rfl, RgOk.of_le (by omega) (by omega) (by omega) (by omega), fun p hp => q p _ (fresh_back e2 hp) (e2.trans (Ex.new hp)) (by
    have e3 : rgV 0 (n : Int) = iv (List.range n) := by
      unfold rgV iv
      rw [Int.sub_zero, Int.toNat_natCast]
      exact List.map_congr_left fun i _ => by
        show V.int (0 + (i : Int)) = V.int (i : Int)
        rw [Int.zero_add]
    rw [e3]
    exact upd_same)⟩
theorem el_cat {xs ys : List V} (h1 : EvL ta σ H xs) (h2 : EvL tb σ H ys) (hz : xs.length + ys.length ≤ 100000) : EvL (tOp rCat ta tb) σ H (xs ++ ys) := fun H1 e Q q =>
  h1 H1 e _ fun p H2 hp e2 hx => h2 H2 (e.trans e2) _ fun p' H3 hp' e3 hy =>
    ⟨p, p', xs, ys, rfl, rfl, e3 p _ hx, hy, sz_of hz, fun l hl => q l _ (fresh_back (e2.trans e3) hl) ((e2.trans e3).trans (Ex.new hl)) upd_same⟩
/-- a known list ahead -/
theorem el_cat1 {a : Addr} {xs ys : List V} (h1 : Ev ta σ H (.ref a)) (ha : H a = some (.lst xs)) (h2 : EvL tb σ H ys) (hz : xs.length + ys.length ≤ 100000) : EvL (tOp rCat ta tb) σ H (xs ++ ys) := fun H1 e Q q =>
  h1 H1 e _ fun H2 e2 => h2 H2 (e.trans e2) _ fun p' H3 hp' e3 hy =>
    ⟨a, p', xs, ys, rfl, rfl, ((e.trans e2).trans e3) a _ ha, hy, sz_of hz, fun l hl => q l _ (fresh_back (e2.trans e3) hl) ((e2.trans e3).trans (Ex.new hl)) upd_same⟩
/-- a known list behind -/
theorem el_cat2 {a : Addr} {xs ys : List V} (h1 : EvL ta σ H xs) (h2 : Ev tb σ H (.ref a)) (ha : H a = some (.lst ys)) (hz : xs.length + ys.length ≤ 100000) : EvL (tOp rCat ta tb) σ H (xs ++ ys) := fun H1 e Q q =>
  h1 H1 e _ fun p H2 hp e2 hx => h2 H2 (e.trans e2) _ fun H3 e3 =>
    ⟨p, a, xs, ys, rfl, rfl, e3 p _ hx, ((e.trans e2).trans e3) a _ ha, sz_of hz, fun l hl => q l _ (fresh_back (e2.trans e3) hl) ((e2.trans e3).trans (Ex.new hl)) upd_same⟩
theorem el_rep {xs : List V} {n : Nat} (h1 : EvL ta σ H xs) (h2 : Ev tb σ H (.int (n : Int))) (hz : xs.length ≤ 10) (hn : n ≤ 10000) : EvL (tOp rRep ta tb) σ H (List.replicate n xs).flatten := fun H1 e Q q =>
  h1 H1 e _ fun p H2 hp e2 hx => h2 H2 (e.trans e2) _ fun H3 e3 =>
    ⟨p, (n : Int), xs, rfl, rfl, e3 p _ hx, by omega, by omega, sz_of (by
      rw [Int.toNat_natCast]
      have := Nat.mul_le_mul hz hn
      omega), fun l hl => q l _ (fresh_back (e2.trans e3) hl) ((e2.trans e3).trans (Ex.new hl)) (by rw [Int.toNat_natCast]; exact upd_same)⟩
theorem el_slD {a : Addr} {xs : List V} {k : Nat} (h : Ev te σ H (.ref a)) (hs : H a = some (.lst xs)) (h1 : Ev tx σ H (.int (k : Int))) : EvL (tSl (rSlL K) te (tPart tx) tNoPart) σ H (xs.drop k) := by
  have g := el_sl (K := K) h (eo_some h1) eo_none (sq_of hs)
  have e : cutV xs (some (k : Int)) none = xs.drop k := cut_lo xs k
  rw [e] at g
  exact g
theorem el_slT {a : Addr} {xs : List V} {k : Nat} (h : Ev te σ H (.ref a)) (hs : H a = some (.lst xs)) (h1 : Ev tx σ H (.int (k : Int))) : EvL (tSl (rSlL K) te tNoPart (tPart tx)) σ H (xs.take k) := by
  have g := el_sl (K := K) h eo_none (eo_some h1) (sq_of hs)
  have e : cutV xs none (some (k : Int)) = xs.take k := cut_hi xs k
  rw [e] at g
  exact g
theorem ev_slD {l : List Nat} {k : Nat} (h : Ev te σ H (sv l)) (h1 : Ev tx σ H (.int (k : Int))) (hz : l.length ≤ 100000) : Ev (tSl rSlT te (tPart tx) tNoPart) σ H (sv (l.drop k)) := fun H1 e Q q =>
  h H1 e _ fun H2 e2 => h1 H2 (e.trans e2) _ fun H3 e3 => ⟨(k : Int), rfl, l, rfl, hz, by
    have e4 : cutT l (some (k : Int)) none = l.drop k := cut_lo l k
    rw [e4]
    exact q H3 (e2.trans e3)⟩
theorem ev_slT {l : List Nat} {k : Nat} (h : Ev te σ H (sv l)) (h1 : Ev tx σ H (.int (k : Int))) (hz : l.length ≤ 100000) : Ev (tSl rSlT te tNoPart (tPart tx)) σ H (sv (l.take k)) := fun H1 e Q q =>
  h H1 e _ fun H2 e2 => h1 H2 (e.trans e2) _ fun H3 e3 => ⟨(k : Int), rfl, l, rfl, hz, by
    have e4 : cutT l none (some (k : Int)) = l.take k := cut_hi l k
    rw [e4]
    exact q H3 (e2.trans e3)⟩
theorem ev_addT {a b : List Nat} (h1 : Ev ta σ H (sv a)) (h2 : Ev tb σ H (sv b)) (hz : a.length + b.length ≤ 100000) : Ev (tOp rAddT ta tb) σ H (sv (a ++ b)) := ev_op h1 h2 fun H1 _ _ q => ⟨a, b, rfl, rfl, hz, q H1 (Ex.refl H1)⟩
theorem ev_mulS {a : List Nat} {n : Nat} (h1 : Ev ta σ H (sv a)) (h2 : Ev tb σ H (.int (n : Int))) (hz : a.length ≤ 1000) (hn : n ≤ 1000) : Ev (tOp rMulS ta tb) σ H (sv (List.replicate n a).flatten) := ev_op h1 h2 fun H1 _ _ q => ⟨a, n, rfl, rfl, hz, hn, q H1 (Ex.refl H1)⟩
theorem ev_ixT {l : List Nat} {i c : Nat} (h1 : Ev ta σ H (sv l)) (h2 : Ev tb σ H (.int (i : Int))) (hi : l[i]? = some c) (hz : l.length ≤ 100000) : Ev (tOp rIxT ta tb) σ H (sv [c]) := ev_op h1 h2 fun H1 _ _ q => ⟨l, i, c, rfl, rfl, hi, hz, q H1 (Ex.refl H1)⟩
theorem ev_inT {l : List Nat} {c : Nat} (h1 : Ev ta σ H (sv [c])) (h2 : Ev tb σ H (sv l)) : Ev (tOp rInT ta tb) σ H (.bl (decide (c ∈ l))) := ev_op h1 h2 fun H1 _ _ q => ⟨c, l, rfl, rfl, q H1 (Ex.refl H1)⟩
theorem ev_ninT {l : List Nat} {c : Nat} (h1 : Ev ta σ H (sv [c])) (h2 : Ev tb σ H (sv l)) : Ev (tOp rNinT ta tb) σ H (.bl (!decide (c ∈ l))) := ev_op h1 h2 fun H1 _ _ q => ⟨c, l, rfl, rfl, q H1 (Ex.refl H1)⟩
theorem ev_geT {a b : List Nat} (h1 : Ev ta σ H (sv a)) (h2 : Ev tb σ H (sv b)) : Ev (tOp rGeT ta tb) σ H (.bl (!decide (a < b))) := ev_op h1 h2 fun H1 _ _ q => ⟨a, b, rfl, rfl, q H1 (Ex.refl H1)⟩
theorem ev_lenT {a : List Nat} (h1 : Ev ta σ H (sv a)) (hz : a.length ≤ 100000) : Ev (tCB rLenT (tCons ta tNil)) σ H (.int (a.length : Int)) := fun H1 e Q q => h1 H1 e _ fun H2 e2 => ⟨a, rfl, hz, q H2 e2⟩
theorem ev_lenL {p : Addr} {xs : List V} (ha : Ev ta σ H (.ref p)) (h : H p = some (.lst xs)) : Ev (tCB (rLenS K) (tCons ta tNil)) σ H (.int (xs.length : Int)) := ev_len ha (sq_of h)
theorem ev_ixL {p : Addr} {xs : List V} {i : Nat} (h1 : Ev ta σ H (.ref p)) (h2 : Ev tb σ H (.int (i : Int))) (h : H p = some (.lst xs)) (hi : xs[i]? = some v) : Ev (tOp (rIxL K) ta tb) σ H v := ev_op h1 h2 (rv_ixL (sq_of h) (atI_nat hi))
theorem ev_strEq {a b : List Nat} (h1 : Ev ta σ H (sv a)) (h2 : Ev tb σ H (sv b)) : Ev (tOp rEq ta tb) σ H (.bl (decide (a = b))) := by
  rw [← decide_sv]
  exact ev_op h1 h2 (rv_eq rfl)
theorem ev_strNe {a b : List Nat} (h1 : Ev ta σ H (sv a)) (h2 : Ev tb σ H (sv b)) : Ev (tOp rNe ta tb) σ H (.bl (!decide (a = b))) := by
  rw [← decide_sv]
  exact ev_op h1 h2 (rv_ne rfl)
theorem ev_intEq {a b : Int} (h1 : Ev ta σ H (.int a)) (h2 : Ev tb σ H (.int b)) : Ev (tOp rEq ta tb) σ H (.bl (decide (a = b))) := by
  have e : decide (V.int a = V.int b) = decide (a = b) := by
    by_cases h : a = b
    · subst h
      simp
    · rw [decide_eq_false h, decide_eq_false fun z => h (V.int.inj z)]
  rw [← e]
  exact ev_op h1 h2 (rv_eq rfl)
theorem ev_intNe {a b : Int} (h1 : Ev ta σ H (.int a)) (h2 : Ev tb σ H (.int b)) : Ev (tOp rNe ta tb) σ H (.bl (!decide (a = b))) := by
  have e : decide (V.int a = V.int b) = decide (a = b) := by
    by_cases h : a = b
    · subst h
      simp
    · rw [decide_eq_false h, decide_eq_false fun z => h (V.int.inj z)]
  rw [← e]
  exact ev_op h1 h2 (rv_ne rfl)
theorem ev_isi {c : String} {t : Value} {b : Bool} (h1 : Ev ta σ H x) (ht : ∀ H1, Ex H H1 → TyX K H1 x t) (hk : PySem.W.kitOne K t (.type c) = some b) : Ev (tCB (rIsi K) (tCons ta (tCons (tC (.ty c)) tNil))) σ H (.bl b) := fun H1 e Q q =>
  h1 H1 e _ fun H2 e2 => ⟨x, .ty c, t, .type c, b, rfl, .ty c, ht H2 (e.trans e2), hk, q H2 e2⟩
theorem ev_add {a b c : Int} (h1 : Ev ta σ H (.int a)) (h2 : Ev tb σ H (.int b)) (e : a + b = c) : Ev (tOp (rI0 fun i j => .int (i + j)) ta tb) σ H (.int c) := by
  subst e
  exact ev_op h1 h2 rv_I0
theorem ev_dif {a b c : Int} (h1 : Ev ta σ H (.int a)) (h2 : Ev tb σ H (.int b)) (e : a - b = c) : Ev (tOp (rI0 fun i j => .int (i - j)) ta tb) σ H (.int c) := by
  subst e
  exact ev_op h1 h2 rv_I0
theorem ev_prod {a b c : Int} (h1 : Ev ta σ H (.int a)) (h2 : Ev tb σ H (.int b)) (hc : CMul a b) (e : a * b = c) : Ev (tOp (rI CMul fun i j => .int (i * j)) ta tb) σ H (.int c) := by
  subst e
  exact ev_op h1 h2 (rv_I hc)
theorem ev_mod {a b c : Int} (h1 : Ev ta σ H (.int a)) (h2 : Ev tb σ H (.int b)) (hc : 0 < b) (e : a % b = c) : Ev (tOp (rI (fun _ j => 0 < j) fun i j => .int (i % j)) ta tb) σ H (.int c) := by
  subst e
  exact ev_op h1 h2 (rv_I hc)
theorem ev_div {a b c : Int} (h1 : Ev ta σ H (.int a)) (h2 : Ev tb σ H (.int b)) (hc : CDiv a b) (e : a / b = c) : Ev (tOp (rI CDiv fun i j => .int (i / j)) ta tb) σ H (.int c) := by
  subst e
  exact ev_op h1 h2 (rv_I hc)
theorem ev_int {a b : Int} (h : Ev ta σ H (.int a)) (e : a = b) : Ev ta σ H (.int b) := ev_is h (congrArg V.int e)
theorem el_is {xs ys : List V} (h : EvL ta σ H xs) (e : xs = ys) : EvL ta σ H ys := e ▸ h
theorem el_one (h : Ev ta σ H v) : EvL (tLst (tCons ta tNil)) σ H [v] := el_lst (ea_cons h ea_nil) (by simp)
theorem el_nil : EvL (tLst tNil) σ H [] := el_lst ea_nil (by simp)
/-- calls some of whose arguments are new lists -/
theorem ev_callLL {sp : Sp} {E : XK} {xs ys : List V} (h1 : EvL ta σ H xs) (h2 : EvL tb σ H ys) (hs : ∀ p q H1, Ex H H1 → H1 p = some (.lst xs) → H1 q = some (.lst ys) → SpV sp [.ref p, .ref q] H1 z) : Ev (tCall sp [] E (tCons ta (tCons tb tNil))) σ H z := fun H1 e Q k =>
  h1 H1 e _ fun p H2 hp e2 hx => h2 H2 (e.trans e2) _ fun q H3 hq e3 hy => hs p q H3 ((e.trans e2).trans e3) (e3 p _ hx) hy H3 (Ex.refl H3) Q (fun H4 e4 => k H4 ((e2.trans e3).trans e4)) E
theorem ev_callL1 {sp : Sp} {E : XK} {xs : List V} (h1 : EvL ta σ H xs) (hs : ∀ p H1, Ex H H1 → H1 p = some (.lst xs) → SpV sp [.ref p] H1 z) : Ev (tCall sp [] E (tCons ta tNil)) σ H z := fun H1 e Q k =>
  h1 H1 e _ fun p H2 hp e2 hx => hs p H2 (e.trans e2) hx H2 (Ex.refl H2) Q (fun H4 e4 => k H4 (e2.trans e4)) E
theorem SpV.of {sp : Sp} {vs : List V} (h : ∀ H1, Ex H H1 → ∀ Q E, RetV z H1 Q → sp vs H1 Q E) : SpV sp vs H z := fun H1 e Q q E => h H1 e Q E q
theorem SpL.of {sp : Sp} {vs xs : List V} (h : ∀ H1, Ex H H1 → ∀ Q E, RetL xs H1 Q → sp vs H1 Q E) : SpL sp vs H xs := fun H1 e Q q E => h H1 e Q E q
end
/-! ### what is walked -/
section
variable {K : PySem.W.Frag} {σ : L2.St} {H : Hp} {ta te : TE} {D : Ends} {tu : TS} {g : TG}
/-- a text's signs -/
def YSg (l : List Nat) : Nat → Hp → V → Hp → Prop := fun i H v H' => H' = H ∧ ∃ c, l[i]? = some c ∧ v = sv [c]
theorem walk_T (l : List Nat) : Walk (Its (mkS l)) l.length (fun _ => True) (YSg l) := by
  refine ⟨fun i _ hi _ => ?_, fun _ _ => ?_, fun i Hh vv H' _ _ y => ?_⟩
  · show i < l.toArray.size
    simpa using hi
  · show l.toArray.size ≤ l.length
    simp
  · obtain ⟨e, c, hc, ev⟩ := y
    refine ⟨e, c, ?_, ev⟩
    have hc2 : l.toArray[i]? = some c := hc
    simpa using hc2
theorem walk_ET (l : List Nat) : Walk (ItE (mkS l)) l.length (fun _ => True) (YPair (fun i => some (.int (i : Nat))) (fun i => (l[i]?).map fun c => sv [c])) := by
  refine ⟨fun i _ hi _ => ?_, fun _ _ => ?_, fun i Hh vv H' _ _ y => ?_⟩
  · show i < l.toArray.size
    simpa using hi
  · show l.toArray.size ≤ l.length
    simp
  · obtain ⟨T, c, e1, e2, hc, e3⟩ := y
    have hc2 : l.toArray[i]? = some c := hc
    have hc3 : l[i]? = some c := by simpa using hc2
    exact ⟨T, .int (i : Nat), sv [c], e1, e2, e3, rfl, by
      show (l[i]?).map (fun c => sv [c]) = some (sv [c])
      rw [hc3]
      rfl⟩
end
end K74
/-! comprehensions over anything that is walked; lists compared -/
namespace K74
open PySem PySem.Spec PyProof.Rows L2 Evl
section
variable {K : PySem.W.Frag} {σ : L2.St} {H H' : Hp} {ta tb te tl : TE} {t : TT} {g : TG} {wi : TI} {x y z v : V}
/-- what is walked comes, G stands from then on -/
def EvI (wi : TI) (σ : L2.St) (H : Hp) (J : It) (G : Hp → Prop) : Prop := ∀ H1, Ex H H1 → ∀ R : It → Hp → Prop, (∀ H2, Ex H1 H2 → G H2 → R J H2) → wi σ H1 R
theorem ei_str {l : List Nat} (h : Ev te σ H (sv l)) : EvI (iStr te) σ H (Its (mkS l)) (fun _ => True) := fun H1 e R q => h H1 e _ fun H2 e2 => ⟨mkS l, rfl, q H2 e2 trivial⟩
theorem ei_enumS {l : List Nat} (h : Ev te σ H (sv l)) : EvI (iEnumS (tCons te tNil)) σ H (ItE (mkS l)) (fun _ => True) := fun H1 e R q => h H1 e _ fun H2 e2 => ⟨mkS l, rfl, q H2 e2 trivial⟩
theorem ei_enum {a : Addr} {xs : List V} (h : Ev te σ H (.ref a)) (hx : H a = some (.lst xs)) : EvI (iEnum K (tCons te tNil)) σ H (Ite K a) (fun H2 => H2 a = some (.lst xs)) := fun H1 e R q => h H1 e _ fun H2 e2 => ⟨a, xs, rfl, sq_of ((e.trans e2) a _ hx), q H2 e2 ((e.trans e2) a _ hx)⟩
theorem ei_list {a : Addr} {xs : List V} (h : Ev te σ H (.ref a)) (hx : H a = some (.lst xs)) : EvI (iList K te) σ H (Itl K a) (fun H2 => H2 a = some (.lst xs)) := fun H1 e R q => h H1 e _ fun H2 e2 => ⟨a, rfl, ⟨xs, sq_of ((e.trans e2) a _ hx)⟩, q H2 e2 ((e.trans e2) a _ hx)⟩
theorem ei_rng1 {n : Nat} (h : Ev te σ H (.int (n : Int))) (hn : n ≤ 100000) : EvI (iRng1 (tCons te tNil)) σ H (Itr 0 n) (fun _ => True) := fun H1 e R q => h H1 e _ fun H2 e2 => ⟨(n : Int), rfl, by omega, by omega, q H2 e2 trivial⟩
theorem ei_rng2 {m n : Nat} (h : Ev te σ H (.int (m : Int))) (h2 : Ev tl σ H (.int (n : Int))) (hm : m ≤ 100000) (hn : n ≤ 100000) : EvI (iRng2 (tCons te (tCons tl tNil))) σ H (Itr m (n - m)) (fun _ => True) := fun H1 e R q => h H1 e _ fun H2 e2 => h2 H2 (e.trans e2) _ fun H3 e3 =>
  ⟨(m : Int), (n : Int), rfl, ⟨by omega, by omega, by omega, by omega⟩, by
    have e4 : ((n : Int) - (m : Int)).toNat = n - m := by omega
    rw [e4]
    exact q H3 (e2.trans e3) trivial⟩
theorem walk_lst {a : Addr} {xs : List V} : Walk (Itl K a) xs.length (fun H => H a = some (.lst xs)) (YAt xs) := walk_list.mono (fun _ h => sq_of h) fun _ _ _ _ _ _ y => y
theorem walk_enl {a : Addr} {xs : List V} : Walk (Ite K a) xs.length (fun H => H a = some (.lst xs)) (YPair (fun i => some (.int (i : Nat))) (fun i => xs[i]?)) := walk_enum.mono (fun _ h => sq_of h) fun _ _ _ _ _ _ y => y
/-- a comprehension whose turns leave all as it was -/
theorem el_lcW {J : It} {n : Nat} {G : Hp → Prop} {Y : Nat → Hp → V → Hp → Prop} {vs : List Nat} (f : Nat → Bool) (v : Nat → V) (hi : EvI wi σ H J G) (wk : Walk J n G Y) (hG : ∀ H1 H2, Ex H1 H2 → G H1 → G H2) (hn : n ≤ 50000)
    (turn : ∀ i x H1 H2, i < n → Ex H H1 → Y i H1 x H2 → Ex H1 H2 ∧ ∃ σ2, wipe σ2 vs = wipe σ vs ∧ (∀ Q : L2.St → Hp → Prop, (∀ H3, Ex H2 H3 → Q σ2 H3) → g x (wipe σ vs) H2 Q) ∧ EvT t σ2 H2 (f i) ∧ (f i = true → Ev te σ2 H2 (v i))) :
    EvL (tLc wi g t te vs) σ H (given n f v) := fun H0 e Q q => hi H0 e _ fun H1 e1 g1 D hD =>
  lc_it wk (fun i H' => Cw H1 f v D i H' ∧ G H') ⟨⟨hD, Ex.new hD, upd_same⟩, hG _ _ (Ex.new hD) g1⟩ (fun _ _ _ p => p.2) (fun i x Ha Hb hin p hy => by
    obtain ⟨c, gp⟩ := p
    obtain ⟨e2, σ2, hw, hg, ht, he⟩ := turn i x Ha Hb hin ((e.trans e1).trans c.2.1) hy
    refine hg _ fun H3 e3 => ⟨hw, ?_⟩
    refine ht H3 e3 _ fun H4 e4 => ?_
    have c4 : Ex Ha H4 := (e2.trans e3).trans e4
    cases hf : f i with
    | true =>
      show te σ2 H4 fun y H5 => ∃ acc, H5 D = some (.lst acc) ∧ acc.length < sizeLine ∧ (Cw H1 f v D (i + 1) (upd H5 D (.lst (acc ++ [y]))) ∧ G (upd H5 D (.lst (acc ++ [y]))))
      refine he hf H4 (e3.trans e4) _ fun H5 e5 => ⟨given i f v, (c4.trans e5) D _ c.2.2, sz_lt (by have := given_len i f v; omega), ⟨c.1, Ex.mut ((c.2.1.trans c4).trans e5) c.1, ?_⟩, hG H1 _ (Ex.mut ((c.2.1.trans c4).trans e5) c.1) g1⟩
      rw [given_yes hf]
      exact upd_same
    | false =>
      show Cw H1 f v D (i + 1) H4 ∧ G H4
      refine ⟨⟨c.1, c.2.1.trans c4, ?_⟩, hG _ _ c4 gp⟩
      rw [given_no hf]
      exact c4 D _ c.2.2) (fun H' p => q D H' (fresh_back e1 p.1.1) (e1.trans p.1.2.1) p.1.2.2)
/-- a for over what is walked -/
theorem s_forW {J : It} {n : Nat} {G : Hp → Prop} {Y : Nat → Hp → V → Hp → Prop} {D : Ends} {tu : TS} (hi : EvI wi σ H J G) (wk : Walk J n G Y) (Pv : Nat → L2.St → Hp → Prop) (h0 : ∀ H1, Ex H H1 → G H1 → Pv 0 σ H1) (hG : ∀ i σ' H', i ≤ n → Pv i σ' H' → G H')
    (hs : ∀ i x σ' H1 H2, i < n → Pv i σ' H1 → Y i H1 x H2 → g x σ' H2 fun σ2 H3 => tu { D with nx := Pv (i + 1), ct := Pv (i + 1), bk := D.nx } σ2 H3) (hd : ∀ σ' H', Pv n σ' H' → D.nx σ' H') : tFor wi g tu D σ H :=
  hi H (Ex.refl H) _ fun H1 e g1 => for_it wk Pv (h0 H1 e g1) hG (fun i x σ' Ha Hb hin p y => hs i x σ' Ha Hb hin p y) hd
theorem q_forW {J : It} {n : Nat} {G : Hp → Prop} {Y : Nat → Hp → V → Hp → Prop} {D : Ends} {tu tz : TS} (hi : EvI wi σ H J G) (wk : Walk J n G Y) (Pv : Nat → L2.St → Hp → Prop) (h0 : ∀ H1, Ex H H1 → G H1 → Pv 0 σ H1) (hG : ∀ i σ' H', i ≤ n → Pv i σ' H' → G H')
    (hs : ∀ i x σ' H1 H2, i < n → Pv i σ' H1 → Y i H1 x H2 → g x σ' H2 fun σ2 H3 => tu { D with nx := Pv (i + 1), ct := Pv (i + 1), bk := tz D } σ2 H3) (hd : ∀ σ' H', Pv n σ' H' → tz D σ' H') : tSeq (tFor wi g tu) tz D σ H :=
  s_forW (D := { D with nx := tz D }) hi wk Pv h0 hG hs hd
theorem ev_sum {l : List Nat} (h : EvL ta σ H (iv l)) : Ev (tCB (rSum K) (tCons ta tNil)) σ H (.int (l.sum : Int)) := fun H0 e0 Q q => by
  refine h H0 e0 _ fun p H1 np e1 h1 => ⟨p, l.map fun n : Nat => (n : Int), rfl, sq_of ?_, ?_⟩
  · rw [h1, List.map_map]
    rfl
  · have e : ∀ l : List Nat, (l.map fun n : Nat => (n : Int)).sum = (l.sum : Int) := fun l => by
      induction l with
      | nil => rfl
      | cons x l ih =>
        rw [List.map_cons, List.sum_cons, List.sum_cons, ih]
        omega
    rw [e]
    exact q H1 e1
theorem q_tup2L {D : Ends} {tz : TS} {i j : Nat} {xs ys : List V} (h1 : EvL ta σ H xs) (h2 : EvL tb σ H ys) (k : ∀ p q H1, H p = none → H q = none → Ex H H1 → H1 p = some (.lst xs) → H1 q = some (.lst ys) → tz D ((σ.set i (some (.ref p))).set j (some (.ref q))) H1) :
    tSeq (tAsg (tTup (tCons ta (tCons tb tNil))) (gTup K 2 (gCons (gName i) (gCons (gName j) gNil)))) tz D σ H :=
  h1 H (Ex.refl H) _ fun p H1 np e1 hx => h2 H1 e1 _ fun q H2 nq e2 hy => ⟨(by show 2 ≤ sizeLine; decide), fun T nT => ⟨T, [.ref p, .ref q], rfl, .inl (.inl upd_same), rfl, _, _, rfl, _, _, rfl, rfl, k p q _ np (fresh_back e1 nq) ((e1.trans e2).trans (Ex.new nT)) (Ex.new nT _ _ (e2 _ _ hx)) (Ex.new nT _ _ hy)⟩⟩
theorem given_none {n : Nat} {f : Nat → Bool} {v : Nat → V} (h : ∀ i, i < n → f i = false) : given n f v = [] := by
  unfold given
  rw [List.filter_eq_nil_iff.mpr fun i hi => by
    rw [h i (List.mem_range.mp hi)]
    exact Bool.false_ne_true]
  rfl
theorem given_all (n : Nat) (v : Nat → V) : given n (fun _ => true) v = (List.range n).map v := by
  unfold given
  rw [List.filter_eq_self.mpr fun _ _ => rfl]
theorem et_yes : EvT tYes σ H true := fun H1 _ _ q => q H1 (Ex.refl H1)
/-! ### lists compared -/
def dN (n : Nat) : PyData := .int (n : Int)
def dI (l : List Nat) : List PyData := l.map dN
def dS (l : List (List Nat)) : List PyData := l.map fun s => .str (mkS s)
def LowS (l : List (List Nat)) : Prop := ∀ s ∈ l, ∀ c ∈ s, c < 123
theorem dp_iv : ∀ l : List Nat, DpAll K H (iv l) (dI l)
  | [] => .nil
  | n :: l => .cons (.int (n : Int)) (dp_iv l)
theorem dp_svs : ∀ l : List (List Nat), DpAll K H (svs l) (dS l)
  | [] => .nil
  | s :: l => .cons (.str (mkS s)) (dp_svs l)
theorem lay_iv : ∀ l : List Nat, PyData.canLayAll0 (dI l) = true ∧ PyData.depthAll (dI l) = 0
  | [] => ⟨rfl, rfl⟩
  | n :: l => by
    obtain ⟨h1, h2⟩ := lay_iv l
    refine ⟨?_, ?_⟩
    · show (PyData.canLay0 (.int (n : Int)) && PyData.canLayAll0 (dI l)) = true
      rw [h1]
      rfl
    · show max (PyData.depth (.int (n : Int))) (PyData.depthAll (dI l)) = 0
      rw [h2]
      rfl
theorem lay_svs : ∀ l : List (List Nat), LowS l → PyData.canLayAll0 (dS l) = true ∧ PyData.depthAll (dS l) = 0
  | [], _ => ⟨rfl, rfl⟩
  | s :: l, h => by
    obtain ⟨h1, h2⟩ := lay_svs l fun s hs => h s (List.mem_cons_of_mem _ hs)
    refine ⟨?_, ?_⟩
    · show (PyData.canLay0 (.str (mkS s)) && PyData.canLayAll0 (dS l)) = true
      rw [h1, Bool.and_true]
      show (s.toArray.all fun c => decide (c < 0x110000)) = true
      rw [List.all_toArray, List.all_eq_true]
      intro c hc
      have := h s (List.mem_cons_self ..) c hc
      exact decide_eq_true (by omega)
    · show max (PyData.depth (.str (mkS s))) (PyData.depthAll (dS l)) = 0
      rw [h2]
      rfl
theorem shaped_of {ds : List PyData} (h : PyData.canLayAll0 ds = true ∧ PyData.depthAll ds = 0) : SeqAt.shaped (.list ds) = true := by
  unfold SeqAt.shaped
  rw [Bool.and_eq_true]
  refine ⟨h.1, decide_eq_true ?_⟩
  show PyData.depthAll ds + 1 ≤ 64
  omega
theorem eqv_iv : ∀ a b : List Nat, PyData.eqvAll (dI a) (dI b) = decide (a = b)
  | [], [] => rfl
  | [], _ :: _ => rfl
  | _ :: _, [] => rfl
  | x :: a, y :: b => by
    show (((x : Int) == (y : Int)) && PyData.eqvAll (dI a) (dI b)) = _
    rw [eqv_iv a b]
    by_cases h : x = y
    · subst h
      simp
    · have h1 : ((x : Int) == (y : Int)) = false := beq_eq_false_iff_ne.mpr fun z => h (by omega)
      rw [h1, decide_eq_false fun z => h (List.cons.inj z).1]
      rfl
theorem eqv_svs : ∀ a b : List (List Nat), PyData.eqvAll (dS a) (dS b) = decide (a = b)
  | [], [] => rfl
  | [], _ :: _ => rfl
  | _ :: _, [] => rfl
  | x :: a, y :: b => by
    show ((mkS x == mkS y) && PyData.eqvAll (dS a) (dS b)) = _
    rw [eqv_svs a b]
    by_cases h : x = y
    · subst h
      simp
    · have h1 : (mkS x == mkS y) = false := beq_eq_false_iff_ne.mpr fun z => h (mkS_inj z)
      rw [h1, decide_eq_false fun z => h (List.cons.inj z).1]
      rfl
theorem dp_ex {H H' : Hp} {p : Addr} {xs : List V} {ds : List PyData} (hx : H p = some (.lst xs)) (hd : ∀ H, DpAll K H xs ds) (e : Ex H H') : Dp K H' (.ref p) (.list ds) := .lst (sq_of (e p _ hx)) (hd H')
theorem ev_eqI {a b : List Nat} (h1 : EvL ta σ H (iv a)) (h2 : EvL tb σ H (iv b)) : Ev (tOp (rEqD K) ta tb) σ H (.bl (decide (a = b))) := ev_opLL h1 h2 fun p q H1 hp hq e H2 e2 Q k => by
  refine ⟨_, _, dp_ex hp (fun _ => dp_iv a) e2, dp_ex hq (fun _ => dp_iv b) e2, shaped_of (lay_iv a), shaped_of (lay_iv b), ?_⟩
  rw [show PyData.eqv (.list (dI a)) (.list (dI b)) = decide (a = b) from eqv_iv a b]
  exact k H2 (Ex.refl H2)
theorem ev_neI {a b : List Nat} (h1 : EvL ta σ H (iv a)) (h2 : EvL tb σ H (iv b)) : Ev (tOp (rNeD K) ta tb) σ H (.bl (!decide (a = b))) := ev_opLL h1 h2 fun p q H1 hp hq e H2 e2 Q k => by
  refine ⟨_, _, dp_ex hp (fun _ => dp_iv a) e2, dp_ex hq (fun _ => dp_iv b) e2, shaped_of (lay_iv a), shaped_of (lay_iv b), ?_⟩
  rw [show PyData.eqv (.list (dI a)) (.list (dI b)) = decide (a = b) from eqv_iv a b]
  exact k H2 (Ex.refl H2)
theorem ev_neS {a b : List (List Nat)} (h1 : EvL ta σ H (svs a)) (h2 : EvL tb σ H (svs b)) (la : LowS a) (lb : LowS b) : Ev (tOp (rNeD K) ta tb) σ H (.bl (!decide (a = b))) := ev_opLL h1 h2 fun p q H1 hp hq e H2 e2 Q k => by
  refine ⟨_, _, dp_ex hp (fun _ => dp_svs a) e2, dp_ex hq (fun _ => dp_svs b) e2, shaped_of (lay_svs a la), shaped_of (lay_svs b lb), ?_⟩
  rw [show PyData.eqv (.list (dS a)) (.list (dS b)) = decide (a = b) from eqv_svs a b]
  exact k H2 (Ex.refl H2)
/-- a known list against a new one -/
theorem ev_neI1 {p : Addr} {a b : List Nat} (h1 : Ev ta σ H (.ref p)) (hp : H p = some (.lst (iv a))) (h2 : EvL tb σ H (iv b)) : Ev (tOp (rNeD K) ta tb) σ H (.bl (!decide (a = b))) := ev_opL h1 h2 fun q H1 hq e H2 e2 Q k => by
  refine ⟨_, _, dp_ex hp (fun _ => dp_iv a) (e.trans e2), dp_ex hq (fun _ => dp_iv b) e2, shaped_of (lay_iv a), shaped_of (lay_iv b), ?_⟩
  rw [show PyData.eqv (.list (dI a)) (.list (dI b)) = decide (a = b) from eqv_iv a b]
  exact k H2 (Ex.refl H2)
theorem ev_eqS1 {p : Addr} {a b : List (List Nat)} (h1 : Ev ta σ H (.ref p)) (hp : H p = some (.lst (svs a))) (h2 : EvL tb σ H (svs b)) (la : LowS a) (lb : LowS b) : Ev (tOp (rEqD K) ta tb) σ H (.bl (decide (a = b))) := ev_opL h1 h2 fun q H1 hq e H2 e2 Q k => by
  refine ⟨_, _, dp_ex hp (fun _ => dp_svs a) (e.trans e2), dp_ex hq (fun _ => dp_svs b) e2, shaped_of (lay_svs a la), shaped_of (lay_svs b lb), ?_⟩
  rw [show PyData.eqv (.list (dS a)) (.list (dS b)) = decide (a = b) from eqv_svs a b]
  exact k H2 (Ex.refl H2)
end
end K74
/-! walks: moved_by and its kin -/
namespace K74
open PySem PySem.Spec PyProof.Rows L2 Evl
local macro_rules | `(tactic| walk_at "ev") => `(tactic| first
  | exact ev_var rfl
  | exact ev_c
  | assumption
  | (refine ev_op ?_ ?_ rv_I0 <;> walk_at "ev")
  | (refine ev_un ?_ ru_neg; walk_at "ev"))
/-! ### what they compute -/
def move {α : Type} (l : List α) (p : Nat) : List α := l.drop (p + 1) ++ (l.drop p).take 1 ++ l.take p
def mvs (n : Nat) (ps : List Nat) : List Nat := ps.foldl move (List.range n)
theorem move_len {α : Type} {l : List α} {p : Nat} (h : p < l.length) : (move l p).length = l.length := by
  unfold move
  rw [List.length_append, List.length_append, List.length_drop, List.length_take, List.length_drop, List.length_take]
  omega
theorem moves_len {α : Type} : ∀ {ps : List Nat} {l : List α}, (∀ p ∈ ps, p < l.length) → (ps.foldl move l).length = l.length
  | [], _, _ => rfl
  | p :: ps, l, h => by
    have h1 := move_len (h p (List.mem_cons_self ..))
    rw [List.foldl_cons, moves_len (ps := ps) (l := move l p) (fun q hq => by rw [h1]; exact h q (List.mem_cons_of_mem _ hq)), h1]
theorem mvs_len {n : Nat} {ps : List Nat} (h : ∀ p ∈ ps, p < n) : (mvs n ps).length = n := by
  unfold mvs
  rw [moves_len (by simpa using h), List.length_range]
theorem mvs_snoc (n : Nat) (ps : List Nat) (p : Nat) : mvs n (ps ++ [p]) = move (mvs n ps) p := by
  unfold mvs
  rw [List.foldl_append]
  rfl
theorem one_at {l : List Nat} {p x : Nat} (h : l[p]? = some x) : (l.drop p).take 1 = [x] := by
  obtain ⟨h1, e⟩ := List.getElem?_eq_some_iff.mp h
  rw [List.drop_eq_getElem_cons h1, e]
  rfl
theorem iv_move (l : List Nat) (p : Nat) : iv (move l p) = (iv l).drop (p + 1) ++ (iv ((l.drop p).take 1)) ++ (iv l).take p := by
  unfold move iv
  rw [List.map_append, List.map_append, List.map_drop, List.map_take (l := l)]
theorem take_snoc {α : Type} {l : List α} {i : Nat} {x : α} (h : l[i]? = some x) : l.take (i + 1) = l.take i ++ [x] := by
  rw [List.take_add_one, h]
  rfl
/-! ### moved_by -/
def sp_moved_by : Sp := fun vs H Q _ => ∃ (n : Nat) (a : Addr) (ps : List Nat), vs = [.int (n : Int), .ref a] ∧ H a = some (.lst (iv ps)) ∧ n ≤ 60 ∧ (∀ p ∈ ps, p < n) ∧ RetL (iv (mvs n ps)) H Q
section
variable {P : Program} {w : World} {K : PySem.W.Frag} {mg : Str → Option Value} {base : Heap}
theorem ok_moved_by (D : Dfn K mg "moved_by" s_moved_by p_moved_by) (B : Bt mg) : Cal P w K mg base "moved_by" p_moved_by 1 sp_moved_by := by
  refine D.cal sc_moved_by (fun vs H Q E h => ?_) (fun f cdv A outer s H vs Q E hr h => ?_)
  · obtain ⟨n, a, ps, rfl, _⟩ := h
    rfl
  · obtain ⟨n, a, ps, rfl, ha, hn, hp, q⟩ := h
    have nd := sc_moved_by.nd
    refine ⟨_, (pss_cons (ps_set (i := 2) nd rfl (Or.inl rfl) (pe_listRg rfl (by rfl) B.n_list (prg_1 (by rfl) B.n_range (pv 0))))
      (pss_cons (ps_for PassesOwn.never rfl (pi_list (pv 1)) (pg_name (i := 3) nd rfl (Or.inl rfl))
        (pss_one (ps_set (i := 2) nd rfl (Or.inl rfl) (pe_op op_cat (pe_op op_cat (pe_slice sl_list (pv 2) (po_some (pe_op op_add (pv 3) pe_int)) po_none) (pe_lst (pa_cons (pe_ix (r := rIxL K) ix_list (pv 2) (pv 3) (fun _ _ => rfl)) pa_nil))) (pe_slice sl_list (pv 2) po_none (po_some (pv 3)))))))
      (pss_one (ps_ret (pv 2)))))
      , ?_⟩
    refine q_asgL (el_rg (ev_var rfl) (by omega)) fun p H1 np e1 h1 => ?_
    refine q_forLn (ev_var rfl) (sq_of (e1 a _ ha)) (fun i σ' H' => ∃ c y, σ' = [some (.int (n : Int)), some (.ref a), some (.ref c), y] ∧ H c = none ∧ Ex H H' ∧ H' c = some (.lst (iv (mvs n (ps.take i))))) (fun H2 e2 => ⟨p, _, rfl, np, e1.trans e2, e2 _ _ h1⟩) (fun i σ' H' _ hW => ?_) (fun i x σ' H' hx hW => ?_) (fun σ' H' hW => ?_)
    · obtain ⟨c, y, rfl, nc, e, hc⟩ := hW
      exact sq_of (e a _ ha)
    · obtain ⟨c, y, rfl, nc, e, hc⟩ := hW
      obtain ⟨j, hj, rfl⟩ := iv_at hx
      have hjn : j < n := hp j (List.mem_of_getElem? hj)
      have hlen : (mvs n (ps.take i)).length = n := mvs_len fun r hr' => hp r (List.mem_of_mem_take hr')
      obtain ⟨x, hx2⟩ : ∃ x, (mvs n (ps.take i))[j]? = some x := ⟨_, List.getElem?_eq_getElem (by omega)⟩
      refine s_asgL (el_cat (el_cat (el_slD (k := j + 1) (ev_var rfl) hc (ev_add (ev_var rfl) ev_c rfl)) (el_one (ev_ixL (i := j) (ev_var rfl) (ev_var rfl) hc (iv_get hx2))) ?_) (el_slT (k := j) (ev_var rfl) hc (ev_var rfl)) ?_) fun p H2 np e2 h2 => ⟨p, _, rfl, fresh_back e np, e.trans e2, ?_⟩
      · rw [List.length_drop, iv_len, hlen]
        show n - (j + 1) + 1 ≤ 100000
        omega
      · rw [List.length_append, List.length_drop, List.length_take, iv_len, hlen]
        show n - (j + 1) + 1 + min j n ≤ 100000
        omega
      · rw [h2, take_snoc hj, mvs_snoc, iv_move, one_at hx2]
        rfl
    · obtain ⟨c, y, rfl, nc, e, hc⟩ := hW
      rw [iv_len, List.take_length] at hc
      exact s_ret (ev_var rfl) fun H2 e2 => q c H2 nc (e.trans e2) (e2 _ _ hc)
end
end K74
/-! walks: the checks -/
namespace K74
open PySem PySem.Spec PyProof.Rows L2 Evl
def Low (l : List Nat) : Prop := ∀ c ∈ l, 97 ≤ c ∧ c < 123
def Rise (l : List Nat) : Prop := ∀ (i a b : Nat), l[i]? = some a → l[i + 1]? = some b → a < b
theorem mem_letters {c : Nat} (h : 97 ≤ c ∧ c < 123) : c ∈ cLETTERS := List.mem_map.mpr ⟨c - 97, List.mem_range.mpr (by omega), by omega⟩
theorem of_letters {c : Nat} (h : c ∈ cLETTERS) : 97 ≤ c ∧ c < 123 := by
  obtain ⟨k, hk, rfl⟩ := List.mem_map.mp h
  have := List.mem_range.mp hk
  omega
theorem takeAll {α : Type} {p : α → Bool} : ∀ {l : List α}, (∀ x ∈ l, p x = true) → l.takeWhile p = l
  | [], _ => rfl
  | x :: l, h => by
    rw [List.takeWhile_cons, if_pos (h x (List.mem_cons_self ..)), takeAll fun y hy => h y (List.mem_cons_of_mem _ hy)]
theorem strip_low {l : List Nat} (h : Low l) : Txt.stripChars (mkS l) (mkS cLETTERS) = mkS [] := by
  unfold Txt.stripChars
  rw [PyProof.Rows.stripBy_eq]
  have e1 : stripLo (mkS cLETTERS).cps.contains true (mkS l) = l.length := by
    unfold stripLo
    rw [if_pos rfl, mkS_cps, takeAll fun x hx => ?_]
    have := mem_letters (h x hx)
    show cLETTERS.toArray.contains x = true
    simpa using this
  rw [e1]
  have e2 : stripHi (mkS cLETTERS).cps.contains true (mkS l) l.length ≤ l.length := by
    unfold stripHi
    rw [if_pos rfl, mkS_len]
    omega
  show (⟨l.toArray.extract l.length _⟩ : Str) = ⟨[].toArray⟩
  congr 1
  apply Array.ext'
  simp [e2]
def sp_is_whole : Sp := fun vs H Q _ => ∃ i : Int, vs = [.int i] ∧ RetV (.bl true) H Q
def sp_is_between : Sp := fun vs H Q _ => ∃ (i lo : Int) (hi : V), vs = [.int i, .int lo, hi] ∧ lo ≤ i ∧ (hi = .non ∨ ∃ j, hi = .int j ∧ i ≤ j) ∧ RetV (.bl true) H Q
def sp_check_number : Sp := fun vs H Q _ => ∃ (i lo : Int) (hi : V), vs = [.int i, .int lo, hi] ∧ lo ≤ i ∧ (hi = .non ∨ ∃ j, hi = .int j ∧ i ≤ j) ∧ RetV .non H Q
def sp_low (b : V) : Sp := fun vs H Q _ => ∃ l : List Nat, vs = [sv l] ∧ Low l ∧ l.length ≤ 1000 ∧ RetV b H Q
def sp_joints (b : V) : Sp := fun vs H Q _ => ∃ l : List Nat, vs = [sv l] ∧ Low l ∧ Rise l ∧ l.length ≤ 1000 ∧ RetV b H Q
def sp_check_size : Sp := fun vs H Q _ => ∃ n : Nat, vs = [.int (n : Int)] ∧ n ≤ 60 ∧ RetV .non H Q
def sp_prog (b : V) : Sp := fun vs H Q _ => ∃ (n : Nat) (a : Addr) (ps : List Nat), vs = [.int (n : Int), .ref a] ∧ H a = some (.lst (iv ps)) ∧ ps.length ≤ 10000 ∧ (∀ p ∈ ps, p < n) ∧ RetV b H Q
def sp_check_pair : Sp := fun vs H Q _ => ∃ l j : List Nat, vs = [sv l, sv j] ∧ Low l ∧ l.length ≤ 1000 ∧ Low j ∧ Rise j ∧ j.length ≤ 1000 ∧ RetV .non H Q
section
variable {P : Program} {w : World} {K : PySem.W.Frag} {mg : Str → Option Value} {base : Heap}
theorem ok_is_whole (D : Dfn K mg "is_whole" s_is_whole p_is_whole) (B : Bt mg) : Cal P w K mg base "is_whole" p_is_whole 1 sp_is_whole := by
  refine D.cal sc_is_whole (fun vs H Q E h => ?_) (fun f cdv A outer s H vs Q E hr h => ?_)
  · obtain ⟨n, rfl, _⟩ := h
    rfl
  · obtain ⟨n, rfl, q⟩ := h
    have nd := sc_is_whole.nd
    refine ⟨_, (pss_one (ps_ret (pe_and (pe_callB (r := rIsi K) call_isi (by rfl) B.n_isinstance (by decide +kernel) (pa_cons (pv 0) (pa_cons (pe_bltn (v := .ty "int") (by rfl) B.n_int (by decide +kernel) rfl) pa_nil))) (pe_one (pe_not (pe_callB (r := rIsi K) call_isi (by rfl) B.n_isinstance (by decide +kernel) (pa_cons (pv 0) (pa_cons (pe_bltn (v := .ty "bool") (by rfl) B.n_bool (by decide +kernel) rfl) pa_nil))))))))
      , ?_⟩
    exact s_ret (ev_andV (ev_isi (b := true) (ev_var rfl) (fun _ _ => .base (.int n)) (kit_ty (by decide +kernel))) fun _ => ev_notV (ev_isi (b := false) (ev_var rfl) (fun _ _ => .base (.int n)) (kit_ty (by decide +kernel)))) fun H1 e => q H1 e
theorem ok_is_between (D : Dfn K mg "is_between" s_is_between p_is_between) (B : Bt mg) (c_is_whole : Cal P w K mg base "is_whole" p_is_whole 1 sp_is_whole) : Cal P w K mg base "is_between" p_is_between 2 sp_is_between := by
  refine D.cal sc_is_between (fun vs H Q E h => ?_) (fun f cdv A outer s H vs Q E hr h => ?_)
  · obtain ⟨n, lo, hi, rfl, _⟩ := h
    rfl
  · obtain ⟨n, lo, hi, rfl, h1, h2, q⟩ := h
    have nd := sc_is_between.nd
    refine ⟨_, (pss_cons (ps_if (pt_not (pt_val (pe_cal c_is_whole (hr.mono (by decide)) (by rfl) (pa_cons (pv 0) pa_nil))))
        (pss_one (ps_ret pe_bl))
        pss_nil)
      (pss_one (ps_ret (pe_and (pe_or (pe_cmpR op_isN (pv 1) pe_non (nomark _)) (pe_one (pe_cmpR op_ge (pv 0) (pv 1) (nomark _)))) (pe_one (pe_or (pe_cmpR op_isN (pv 2) pe_non (nomark _)) (pe_one (pe_cmpR op_le (pv 0) (pv 2) (nomark _)))))))))
      , ?_⟩
    refine q_when (b := false) (et_not (a := true) (et_B (ev_call (vs := [.int n]) (ea_cons (ev_var rfl) ea_nil) (SpV.of fun H1 _ Q E q => ⟨n, rfl, q⟩)))) (fun z => by cases z) fun _ H1 e1 => ?_
    have t1 : Ev (tOp (rI0 fun i j => .bl (decide (j ≤ i))) (tVar 0) (tVar 1)) (start N_is_between [.int n, .int lo, hi]) H1 (.bl true) := ev_is (ev_op (x := .int n) (y := .int lo) (ev_var rfl) (ev_var rfl) rv_I0) (congrArg V.bl (decide_eq_true h1))
    have t0 : Ev (tOp (fun x y H Q => y = .non ∧ Q (.bl (decide (x = .non))) H) (tVar 1) (tC .non)) (start N_is_between [.int n, .int lo, hi]) H1 (.bl false) := ev_op (x := .int lo) (ev_var rfl) ev_c fun H2 _ Q q => ⟨rfl, q H2 (Ex.refl H2)⟩
    refine s_ret (ev_andV (a := true) (ev_orV (a := false) (b := true) t0 fun _ => t1) fun _ => ?_) (fun H2 e2 => q H2 (e1.trans e2))
    rcases h2 with rfl | ⟨j, rfl, h2⟩
    · exact ev_orV (a := true) (b := true) (ev_op (x := .non) (ev_var rfl) ev_c fun H2 _ Q q => ⟨rfl, q H2 (Ex.refl H2)⟩) fun z => by cases z
    · exact ev_orV (a := false) (b := true) (ev_op (x := .int j) (ev_var rfl) ev_c fun H2 _ Q q => ⟨rfl, q H2 (Ex.refl H2)⟩) fun _ => ev_is (ev_op (x := .int n) (y := .int j) (ev_var rfl) (ev_var rfl) rv_I0) (congrArg V.bl (decide_eq_true h2))
theorem ok_check_number (D : Dfn K mg "check_number" s_check_number p_check_number) (B : Bt mg) (c_is_between : Cal P w K mg base "is_between" p_is_between 2 sp_is_between) : Cal P w K mg base "check_number" p_check_number 3 sp_check_number := by
  refine D.cal sc_check_number (fun vs H Q E h => ?_) (fun f cdv A outer s H vs Q E hr h => ?_)
  · obtain ⟨n, lo, hi, rfl, _⟩ := h
    rfl
  · obtain ⟨n, lo, hi, rfl, h1, h2, q⟩ := h
    have nd := sc_check_number.nd
    refine ⟨_, (pss_one (ps_if (pt_not (pt_val (pe_cal c_is_between (hr.mono (by decide)) (by rfl) (pa_cons (pv 0) (pa_cons (pv 1) (pa_cons (pv 2) pa_nil))))))
        (pss_one ps_never)
        pss_nil))
      , ?_⟩
    exact s_when (b := false) (et_not (a := true) (et_B (ev_call (vs := [.int n, .int lo, hi]) (ea_cons (ev_var rfl) (ea_cons (ev_var rfl) (ea_cons (ev_var rfl) ea_nil))) (SpV.of fun H1 _ Q E q => ⟨n, lo, hi, rfl, h1, h2, q⟩)))) (fun z => by cases z) fun _ H1 e1 => q H1 e1
theorem ok_is_letters_alone (D : Dfn K mg "is_letters_alone" s_is_letters_alone p_is_letters_alone) (B : Bt mg) : Cal P w K mg base "is_letters_alone" p_is_letters_alone 1 (sp_low (.bl true)) := by
  refine D.cal sc_is_letters_alone (fun vs H Q E h => ?_) (fun f cdv A outer s H vs Q E hr h => ?_)
  · obtain ⟨l, rfl, _⟩ := h
    rfl
  · obtain ⟨l, rfl, hl, hz, q⟩ := h
    have nd := sc_is_letters_alone.nd
    refine ⟨_, (pss_one (ps_ret (pe_and (pe_callB (r := rIsi K) call_isi (by rfl) B.n_isinstance (by decide +kernel) (pa_cons (pv 0) (pa_cons (pe_bltn (v := .ty "str") (by rfl) B.n_str (by decide +kernel) rfl) pa_nil))) (pe_one (pe_cmpR op_eq (pe_bm PySem.F.plainAttrs_str PySem.F.slot_str_strip PySem.F.type_str_strip mt_stripChars (pv 0) (pa_cons (pe_gk B.gLETTERS (by rfl)) pa_nil)) pe_str (nomark _))))))
      , ?_⟩
    refine s_ret (ev_andV (a := true) (b := true) (ev_isi (b := true) (ev_var rfl) (fun _ _ => .base (.str (mkS l))) (kit_ty (by decide +kernel))) fun _ => ?_) fun H1 e => q H1 e
    refine ev_is (ev_strEq (a := []) (b := []) (fun H1 e Q q => ?_) ev_c) rfl
    refine ⟨sv l, rfl, rfl, mkS l, mkS cLETTERS, rfl, rfl, by rw [mkS_len]; exact sz_of (by omega), ?_⟩
    rw [strip_low hl]
    exact q H1 (Ex.refl H1)
theorem ok_check_word (D : Dfn K mg "check_word" s_check_word p_check_word) (B : Bt mg) (c_is_letters_alone : Cal P w K mg base "is_letters_alone" p_is_letters_alone 1 (sp_low (.bl true))) : Cal P w K mg base "check_word" p_check_word 2 (sp_low .non) := by
  refine D.cal sc_check_word (fun vs H Q E h => ?_) (fun f cdv A outer s H vs Q E hr h => ?_)
  · obtain ⟨l, rfl, _⟩ := h
    rfl
  · obtain ⟨l, rfl, hl, hz, q⟩ := h
    have nd := sc_check_word.nd
    refine ⟨_, (pss_one (ps_if (pt_not (pt_val (pe_cal c_is_letters_alone (hr.mono (by decide)) (by rfl) (pa_cons (pv 0) pa_nil))))
        (pss_one ps_never)
        pss_nil))
      , ?_⟩
    exact s_when (b := false) (et_not (a := true) (et_B (ev_call (vs := [sv l]) (ea_cons (ev_var rfl) ea_nil) (SpV.of fun H1 _ Q E q => ⟨l, rfl, hl, hz, q⟩)))) (fun z => by cases z) fun _ H1 e1 => q H1 e1
theorem ok_rises (D : Dfn K mg "rises" s_rises p_rises) (B : Bt mg) : Cal P w K mg base "rises" p_rises 1 (sp_joints (.bl true)) := by
  refine D.cal sc_rises (fun vs H Q E h => ?_) (fun f cdv A outer s H vs Q E hr h => ?_)
  · obtain ⟨l, rfl, _⟩ := h
    rfl
  · obtain ⟨l, rfl, hl, hR, hz, q⟩ := h
    have nd := sc_rises.nd
    refine ⟨_, (pss_one (ps_ret (pe_cmpR (op_eqD (hu64 hr)) (pe_lc (own := [("at", 1)]) (g := gName 1) rfl nd (pi_range2 (by rfl) B.n_range (pa_cons pe_int (pa_cons (pe_callB call_lenT (by rfl) B.n_len (by decide +kernel) (pa_cons (pv 0) pa_nil)) pa_nil))) (blkOk_by (own := [("at", 1)]) (N := N_rises) (sc := defScope s_rises) (by decide +kernel)) (fun _ _ _ _ _ => (pg_name (i := 1) nd rfl (Or.inl rfl))) (fun _ _ _ _ _ => (pts_one (pt_cmpR op_geT (pe_ix (r := rIxT) ix_T (pv 0) (pe_op op_sub (pv 1) pe_int) (fun _ _ => rfl)) (pe_ix (r := rIxT) ix_T (pv 0) (pv 1) (fun _ _ => rfl)) (nomark _)))) (fun _ _ _ _ _ => (pv 1))) (pe_lst pa_nil) (nomark _))))
      , ?_⟩
    refine s_ret (ev_is (ev_eqI (a := []) (b := []) (el_is (el_lcW (fun _ => false) (fun _ => .non) (ei_rng2 (m := 1) (n := l.length) ev_c (ev_lenT (ev_var rfl) (by omega)) (by omega) (by omega)) walk_range (fun _ _ _ h => h) (by omega) fun i x H1 H2 hi e hy => ?_) (given_none fun _ _ => rfl)) el_nil) rfl) fun H1 e => q H1 e
    obtain ⟨rfl, rfl⟩ := hy
    obtain ⟨a, ha⟩ : ∃ a, l[i]? = some a := ⟨_, List.getElem?_eq_getElem (by omega)⟩
    obtain ⟨b, hb⟩ : ∃ b, l[i + 1]? = some b := ⟨_, List.getElem?_eq_getElem (by omega)⟩
    have hab := hR i a b ha hb
    refine ⟨Ex.refl _, [some (sv l), some (.int (1 + (i : Int)))], rfl, fun Q q => q H2 (Ex.refl H2), et_test (ev_is (ev_geT (a := [a]) (b := [b]) (ev_ixT (i := i) (ev_var rfl) (ev_dif (ev_var rfl) ev_c (by omega)) ha (by omega)) (ev_ixT (i := i + 1) (ev_var rfl) (ev_int (ev_var rfl) (by omega)) hb (by omega))) ?_), fun z => by cases z⟩
    rw [decide_eq_true (show ([a] : List Nat) < [b] from List.Lex.rel hab)]
    rfl
theorem ok_is_letters_in_order (D : Dfn K mg "is_letters_in_order" s_is_letters_in_order p_is_letters_in_order) (B : Bt mg) (c_is_letters_alone : Cal P w K mg base "is_letters_alone" p_is_letters_alone 1 (sp_low (.bl true)))
    (c_rises : Cal P w K mg base "rises" p_rises 1 (sp_joints (.bl true))) : Cal P w K mg base "is_letters_in_order" p_is_letters_in_order 2 (sp_joints (.bl true)) := by
  refine D.cal sc_is_letters_in_order (fun vs H Q E h => ?_) (fun f cdv A outer s H vs Q E hr h => ?_)
  · obtain ⟨l, rfl, _⟩ := h
    rfl
  · obtain ⟨l, rfl, hl, hR, hz, q⟩ := h
    have nd := sc_is_letters_in_order.nd
    refine ⟨_, (pss_one (ps_ret (pe_and (pe_cal c_is_letters_alone (hr.mono (by decide)) (by rfl) (pa_cons (pv 0) pa_nil)) (pe_one (pe_cal c_rises (hr.mono (by decide)) (by rfl) (pa_cons (pv 0) pa_nil))))))
      , ?_⟩
    exact s_ret (ev_andV (a := true) (b := true) (ev_call (vs := [sv l]) (ea_cons (ev_var rfl) ea_nil) (SpV.of fun H1 _ Q E q => ⟨l, rfl, hl, hz, q⟩)) fun _ => ev_call (vs := [sv l]) (ea_cons (ev_var rfl) ea_nil) (SpV.of fun H1 _ Q E q => ⟨l, rfl, hl, hR, hz, q⟩)) fun H1 e => q H1 e
theorem ok_check_joints (D : Dfn K mg "check_joints" s_check_joints p_check_joints) (B : Bt mg) (c_is_letters_in_order : Cal P w K mg base "is_letters_in_order" p_is_letters_in_order 2 (sp_joints (.bl true))) : Cal P w K mg base "check_joints" p_check_joints 3 (sp_joints .non) := by
  refine D.cal sc_check_joints (fun vs H Q E h => ?_) (fun f cdv A outer s H vs Q E hr h => ?_)
  · obtain ⟨l, rfl, _⟩ := h
    rfl
  · obtain ⟨l, rfl, hl, hR, hz, q⟩ := h
    have nd := sc_check_joints.nd
    refine ⟨_, (pss_one (ps_if (pt_not (pt_val (pe_cal c_is_letters_in_order (hr.mono (by decide)) (by rfl) (pa_cons (pv 0) pa_nil))))
        (pss_one ps_never)
        pss_nil))
      , ?_⟩
    exact s_when (b := false) (et_not (a := true) (et_B (ev_call (vs := [sv l]) (ea_cons (ev_var rfl) ea_nil) (SpV.of fun H1 _ Q E q => ⟨l, rfl, hl, hR, hz, q⟩)))) (fun z => by cases z) fun _ H1 e1 => q H1 e1
theorem ok_check_size (D : Dfn K mg "check_size" s_check_size p_check_size) (B : Bt mg) (c_check_number : Cal P w K mg base "check_number" p_check_number 3 sp_check_number) : Cal P w K mg base "check_size" p_check_size 4 sp_check_size := by
  refine D.cal sc_check_size (fun vs H Q E h => ?_) (fun f cdv A outer s H vs Q E hr h => ?_)
  · obtain ⟨n, rfl, _⟩ := h
    rfl
  · obtain ⟨n, rfl, hn, q⟩ := h
    have nd := sc_check_size.nd
    refine ⟨_, (pss_one (ps_expr (pe_cal c_check_number (hr.mono (by decide)) (by rfl) (pa_cons (pv 0) (pa_cons pe_int (pa_cons (pe_gk B.gMOST_SIZE (by rfl)) pa_nil))))))
      , ?_⟩
    exact s_drop (ev_call (vs := [.int (n : Int), .int 0, .int 60]) (ea_cons (ev_var rfl) (ea_cons ev_c (ea_cons ev_c ea_nil))) (SpV.of fun H1 _ Q E q => ⟨n, 0, .int 60, rfl, by omega, .inr ⟨60, rfl, by omega⟩, q⟩)) fun H1 e => q H1 e
theorem ok_is_program (D : Dfn K mg "is_program" s_is_program p_is_program) (B : Bt mg) (c_is_between : Cal P w K mg base "is_between" p_is_between 2 sp_is_between) : Cal P w K mg base "is_program" p_is_program 3 (sp_prog (.bl true)) := by
  refine D.cal sc_is_program (fun vs H Q E h => ?_) (fun f cdv A outer s H vs Q E hr h => ?_)
  · obtain ⟨n, a, ps, rfl, _⟩ := h
    rfl
  · obtain ⟨n, a, ps, rfl, ha, hz, hp, q⟩ := h
    have nd := sc_is_program.nd
    refine ⟨_, (pss_one (ps_ret (pe_and (pe_callB (r := rIsi K) call_isi (by rfl) B.n_isinstance (by decide +kernel) (pa_cons (pv 1) (pa_cons (pe_bltn (v := .ty "list") (by rfl) B.n_list (by decide +kernel) rfl) pa_nil))) (pe_one (pe_cmpR (op_eqD (hu64 hr)) (pe_lc (own := [("place", 2)]) (g := gName 2) rfl nd (pi_list (pv 1)) (blkOk_by (own := [("place", 2)]) (N := N_is_program) (sc := defScope s_is_program) (by decide +kernel)) (fun _ _ _ _ _ => (pg_name (i := 2) nd rfl (Or.inl rfl))) (fun _ _ _ _ _ => (pts_one (pt_not (pt_val (pe_cal c_is_between (hr.mono (by decide)) (by rfl) (pa_cons (pv 2) (pa_cons pe_int (pa_cons (pe_op op_sub (pv 0) pe_int) pa_nil)))))))) (fun _ _ _ _ _ => (pv 2))) (pe_lst pa_nil) (nomark _))))))
      , ?_⟩
    refine s_ret (ev_andV (a := true) (b := true) (ev_isi (b := true) (ev_var rfl) (fun _ e => .base (.lst (e _ _ ha))) (kit_ty (by decide +kernel))) fun _ => ev_is (ev_eqI (a := []) (b := []) (el_is (el_lcW (fun _ => false) (fun _ => .non) (ei_list (ev_var rfl) ha) walk_lst (fun _ _ e h => e _ _ h) (by rw [iv_len]; omega) fun i x H1 H2 hi e hy => ?_) (given_none fun _ _ => rfl)) el_nil) rfl) fun H1 e => q H1 e
    obtain ⟨rfl, hx⟩ := hy
    obtain ⟨j, hj, rfl⟩ := iv_at hx
    have hjn := hp j (List.mem_of_getElem? hj)
    refine ⟨Ex.refl _, [some (.int (n : Int)), some (.ref a), some (.int (j : Int))], rfl, fun Q q => q H2 (Ex.refl H2), et_not (a := true) (et_B (ev_call (vs := [.int (j : Int), .int 0, .int ((n : Int) - 1)]) (ea_cons (ev_var rfl) (ea_cons ev_c (ea_cons (ev_dif (ev_var rfl) ev_c rfl) ea_nil))) (SpV.of fun H1 _ Q E q => ⟨j, 0, .int ((n : Int) - 1), rfl, by omega, .inr ⟨_, rfl, by omega⟩, q⟩))), fun z => by cases z⟩
theorem ok_check_program (D : Dfn K mg "check_program" s_check_program p_check_program) (B : Bt mg) (c_is_program : Cal P w K mg base "is_program" p_is_program 3 (sp_prog (.bl true))) : Cal P w K mg base "check_program" p_check_program 4 (sp_prog .non) := by
  refine D.cal sc_check_program (fun vs H Q E h => ?_) (fun f cdv A outer s H vs Q E hr h => ?_)
  · obtain ⟨n, a, ps, rfl, _⟩ := h
    rfl
  · obtain ⟨n, a, ps, rfl, ha, hz, hp, q⟩ := h
    have nd := sc_check_program.nd
    refine ⟨_, (pss_one (ps_if (pt_not (pt_val (pe_cal c_is_program (hr.mono (by decide)) (by rfl) (pa_cons (pv 0) (pa_cons (pv 1) pa_nil)))))
        (pss_one ps_never)
        pss_nil))
      , ?_⟩
    exact s_when (b := false) (et_not (a := true) (et_B (ev_call (vs := [.int (n : Int), .ref a]) (ea_cons (ev_var rfl) (ea_cons (ev_var rfl) ea_nil)) (SpV.of fun H1 e Q E q => ⟨n, a, ps, rfl, e _ _ ha, hz, hp, q⟩)))) (fun z => by cases z) fun _ H1 e1 => q H1 e1
theorem ok_check_numbers (D : Dfn K mg "check_numbers" s_check_numbers p_check_numbers) (B : Bt mg) (c_is_program : Cal P w K mg base "is_program" p_is_program 3 (sp_prog (.bl true))) : Cal P w K mg base "check_numbers" p_check_numbers 4 (sp_prog .non) := by
  refine D.cal sc_check_numbers (fun vs H Q E h => ?_) (fun f cdv A outer s H vs Q E hr h => ?_)
  · obtain ⟨n, a, ps, rfl, _⟩ := h
    rfl
  · obtain ⟨n, a, ps, rfl, ha, hz, hp, q⟩ := h
    have nd := sc_check_numbers.nd
    refine ⟨_, (pss_one (ps_if (pt_not (pt_val (pe_cal c_is_program (hr.mono (by decide)) (by rfl) (pa_cons (pv 0) (pa_cons (pv 1) pa_nil)))))
        (pss_one ps_never)
        pss_nil))
      , ?_⟩
    exact s_when (b := false) (et_not (a := true) (et_B (ev_call (vs := [.int (n : Int), .ref a]) (ea_cons (ev_var rfl) (ea_cons (ev_var rfl) ea_nil)) (SpV.of fun H1 e Q E q => ⟨n, a, ps, rfl, e _ _ ha, hz, hp, q⟩)))) (fun z => by cases z) fun _ H1 e1 => q H1 e1
theorem ok_check_pair (D : Dfn K mg "check_pair" s_check_pair p_check_pair) (B : Bt mg) (c_check_word : Cal P w K mg base "check_word" p_check_word 2 (sp_low .non)) (c_check_joints : Cal P w K mg base "check_joints" p_check_joints 3 (sp_joints .non)) : Cal P w K mg base "check_pair" p_check_pair 4 sp_check_pair := by
  refine D.cal sc_check_pair (fun vs H Q E h => ?_) (fun f cdv A outer s H vs Q E hr h => ?_)
  · obtain ⟨l, j, rfl, _⟩ := h
    rfl
  · obtain ⟨l, j, rfl, hl, hz, hj, hR, hz2, q⟩ := h
    have nd := sc_check_pair.nd
    refine ⟨_, (pss_cons (ps_expr (pe_cal c_check_word (hr.mono (by decide)) (by rfl) (pa_cons (pv 0) pa_nil)))
      (pss_one (ps_expr (pe_cal c_check_joints (hr.mono (by decide)) (by rfl) (pa_cons (pv 1) pa_nil)))))
      , ?_⟩
    exact q_drop (ev_call (vs := [sv l]) (ea_cons (ev_var rfl) ea_nil) (SpV.of fun H1 _ Q E q => ⟨l, rfl, hl, hz, q⟩)) fun H1 e1 => s_drop (ev_call (vs := [sv j]) (ea_cons (ev_var rfl) ea_nil) (SpV.of fun H1 _ Q E q => ⟨j, rfl, hj, hR, hz2, q⟩)) fun H2 e2 => q H2 (e1.trans e2)
end
end K74
/-! walks: goals_of, last_unlike, turn_of, common_times -/
namespace K74
open PySem PySem.Spec PyProof.Rows L2 Evl
def goalsN (ms : List Nat) : Nat → List Nat
  | 0 => List.replicate ms.length 0
  | i + 1 => (goalsN ms i).set (ms.getD i 0) i
def goals (ms : List Nat) : List Nat := goalsN ms ms.length
theorem goalsN_len (ms : List Nat) : ∀ i, (goalsN ms i).length = ms.length
  | 0 => by simp [goalsN]
  | i + 1 => by
    unfold goalsN
    rw [List.length_set, goalsN_len ms i]
def unl (a b : List Nat) (p : Nat) : Bool := !decide ((goals a).getD p 0 = (goals b).getD p 0)
def unls (a b : List Nat) : List Nat := (List.range a.length).filter (unl a b)
def lastUn (a b : List Nat) : Option Nat := (unls a b).getLast?
def turn (ps : List Nat) : Nat := (ps.map (· + 1)).sum
def common (ns : List Nat) : Nat := ns.foldl (fun f x => f / Nat.gcd f x * x) 1
def on (o : Option Nat) : V := match o with
  | none => .non
  | some p => .int (p : Int)
theorem lastAt {α : Type} {xs : List α} {z : α} (h : xs.getLast? = some z) : ∃ ys, xs = ys ++ [z] := by
  obtain ⟨ys, e⟩ := List.getLast?_eq_some_iff.mp h
  exact ⟨ys, e⟩
def sp_goals_of : Sp := fun vs H Q _ => ∃ (a : Addr) (ms : List Nat), vs = [.ref a] ∧ H a = some (.lst (iv ms)) ∧ ms.length ≤ 60 ∧ (∀ p ∈ ms, p < ms.length) ∧ RetL (iv (goals ms)) H Q
def sp_last_unlike : Sp := fun vs H Q _ => ∃ (a b : Addr) (ms ks : List Nat), vs = [.ref a, .ref b] ∧ H a = some (.lst (iv ms)) ∧ H b = some (.lst (iv ks)) ∧ ms.length ≤ 60 ∧ ks.length = ms.length ∧ (∀ p ∈ ms, p < ms.length) ∧ (∀ p ∈ ks, p < ks.length) ∧ RetV (on (lastUn ms ks)) H Q
def sp_turn_of : Sp := fun vs H Q _ => ∃ (a : Addr) (ps : List Nat), vs = [.ref a] ∧ H a = some (.lst (iv ps)) ∧ ps.length ≤ 10000 ∧ RetV (.int (turn ps : Int)) H Q
def sp_common_times : Sp := fun vs H Q _ => ∃ (a : Addr) (ns : List Nat), vs = [.ref a] ∧ H a = some (.lst (iv ns)) ∧ (∀ n ∈ ns, 0 < n ∧ n ≤ 1000) ∧ RetV (.int (common ns : Int)) H Q
section
variable {P : Program} {w : World} {K : PySem.W.Frag} {mg : Str → Option Value} {base : Heap}
theorem ok_goals_of (D : Dfn K mg "goals_of" s_goals_of p_goals_of) (B : Bt mg) : Cal P w K mg base "goals_of" p_goals_of 1 sp_goals_of := by
  refine D.cal sc_goals_of (fun vs H Q E h => ?_) (fun f cdv A outer s H vs Q E hr h => ?_)
  · obtain ⟨a, ms, rfl, _⟩ := h
    rfl
  · obtain ⟨a, ms, rfl, ha, hl, hp, q⟩ := h
    have nd := sc_goals_of.nd
    refine ⟨_, (pss_cons (ps_set (i := 1) nd rfl (Or.inl rfl) (pe_op op_rep (pe_lst (pa_cons pe_int pa_nil)) (pe_callB (r := Evl.rLenS K) call_len_seq (by rfl) B.n_len (by decide +kernel) (pa_cons (pv 0) pa_nil))))
      (pss_cons (ps_for PassesOwn.never rfl (pi_enum (by rfl) B.n_enumerate (pa_cons (pv 0) pa_nil)) (pg_tup rfl (pgs_cons (pg_name (i := 2) nd rfl (Or.inl rfl)) (pgs_cons (pg_name (i := 3) nd rfl (Or.inl rfl)) pgs_nil)))
        (pss_one (ps_asg (pv 2) (pg_sub (pv 1) (pv 3) set_list))))
      (pss_one (ps_ret (pv 1)))))
      , ?_⟩
    refine q_asgL (el_rep (n := ms.length) (el_one ev_c) (ev_int (ev_lenL (ev_var rfl) ha) (by rw [iv_len])) (by simp) (by omega)) fun p H1 np e1 h1 => ?_
    refine q_forW (n := (iv ms).length) (ei_enum (ev_var rfl) (e1 _ _ ha)) walk_enl (fun i σ' H' => ∃ y z, σ' = [some (.ref a), some (.ref p), y, z] ∧ Ex H H' ∧ H' p = some (.lst (iv (goalsN ms i)))) (fun H2 e2 _ => ⟨_, _, rfl, e1.trans e2, ?_⟩) (fun i σ' H' _ hW => ?_) (fun i x σ' H2 H3 hi hW hy => ?_) (fun σ' H' hW => ?_)
    · rw [e2 _ _ h1]
      have e : ∀ n : Nat, (List.replicate n [V.int 0]).flatten = iv (List.replicate n 0) := fun n => by
        induction n with
        | zero => rfl
        | succ n ih =>
          rw [List.replicate_succ, List.flatten_cons, ih]
          rfl
      rw [e]
      rfl
    · obtain ⟨y, z, rfl, e, hc⟩ := hW
      exact e a _ ha
    · obtain ⟨y, z, rfl, e, hc⟩ := hW
      obtain ⟨T, v1, v2, rfl, nT, rfl, f1, f2⟩ := hy
      obtain ⟨j, hj, rfl⟩ := iv_at f2
      cases (show V.int (i : Nat) = v1 from Option.some.inj f1)
      have e3 : Ex H2 (upd H2 T (.tup [.int (i : Nat), .int (j : Int)])) := Ex.new nT
      refine ⟨T, [.int (i : Nat), .int (j : Int)], rfl, .inl (.inl upd_same), rfl, .int (i : Nat), [.int (j : Int)], rfl, .int (j : Int), [], rfl, rfl, ?_⟩
      have hjl : j < ms.length := hp j (List.mem_of_getElem? hj)
      refine s_setL (j := j) (e3 _ _ hc) (ev_var rfl) (ev_var rfl) (ev_var rfl) (by rw [iv_len, goalsN_len]; exact hjl) fun H4 e4 => ⟨_, _, rfl, Ex.mut ((e.trans e3).trans e4) np, ?_⟩
      rw [upd_same]
      show _ = some (HO.lst (iv ((goalsN ms i).set (ms.getD i 0) i)))
      rw [iv_set, List.getD_eq_getElem?_getD, hj]
      rfl
    · obtain ⟨y, z, rfl, e, hc⟩ := hW
      rw [iv_len] at hc
      exact s_ret (ev_var rfl) fun H2 e2 => q p H2 np (e.trans e2) (e2 _ _ hc)
theorem ok_last_unlike (D : Dfn K mg "last_unlike" s_last_unlike p_last_unlike) (B : Bt mg) (c_goals_of : Cal P w K mg base "goals_of" p_goals_of 1 sp_goals_of) : Cal P w K mg base "last_unlike" p_last_unlike 2 sp_last_unlike := by
  refine D.cal sc_last_unlike (fun vs H Q E h => ?_) (fun f cdv A outer s H vs Q E hr h => ?_)
  · obtain ⟨a, b, ms, ks, rfl, _⟩ := h
    rfl
  · obtain ⟨a, b, ms, ks, rfl, ha, hb, hl, hkl, hp, hk, q⟩ := h
    have nd := sc_last_unlike.nd
    refine ⟨_, (pss_cons (ps_asg (pe_tup (pa_cons (pe_cal c_goals_of (hr.mono (by decide)) (by rfl) (pa_cons (pv 0) pa_nil)) (pa_cons (pe_cal c_goals_of (hr.mono (by decide)) (by rfl) (pa_cons (pv 1) pa_nil)) pa_nil))) (pg_tup rfl (pgs_cons (pg_name (i := 2) nd rfl (Or.inr rfl)) (pgs_cons (pg_name (i := 3) nd rfl (Or.inr rfl)) pgs_nil))))
      (pss_cons (ps_setLc (i := 4) (own := [("place", 5)]) (g := gName 5) rfl nd rfl rfl (sw_true rfl rfl rfl (by decide +kernel)) (pi_range1 (by rfl) B.n_range (pa_cons (pe_callB (r := Evl.rLenS K) call_len_seq (by rfl) B.n_len (by decide +kernel) (pa_cons (pv 2) pa_nil)) pa_nil)) (blkOk_by (own := [("place", 5)]) (N := N_last_unlike) (sc := defScope s_last_unlike) (by decide +kernel)) (fun _ _ _ _ _ => (pg_name (i := 5) nd rfl (Or.inl rfl))) (fun _ _ _ _ _ => (pts_one (pt_cmpR op_ne (pe_ix (r := rIxL K) ix_list (pv 2) (pv 5) (fun _ _ => rfl)) (pe_ix (r := rIxL K) ix_list (pv 3) (pv 5) (fun _ _ => rfl)) (nomark _)))) (fun _ _ _ _ _ => (pv 5)))
      (pss_one (ps_ret (pe_ifExp (pt_cmpR (op_neD (hu64 hr)) (pv 4) (pe_lst pa_nil) (nomark _)) (pe_ix (r := rIxL K) ix_list (pv 4) (pe_un un_neg pe_int) (fun _ _ => rfl)) pe_non)))))
      , ?_⟩
    have g1 : EvL (tCall sp_goals_of [] E0 (tCons (tVar 0) tNil)) (start N_last_unlike [.ref a, .ref b]) H (iv (goals ms)) := el_call (vs := [.ref a]) (ea_cons (ev_var rfl) ea_nil) (SpL.of fun H1 e Q E q => ⟨a, ms, rfl, e _ _ ha, hl, hp, q⟩)
    have g2 : EvL (tCall sp_goals_of [] E0 (tCons (tVar 1) tNil)) (start N_last_unlike [.ref a, .ref b]) H (iv (goals ks)) := el_call (vs := [.ref b]) (ea_cons (ev_var rfl) ea_nil) (SpL.of fun H1 e Q E q => ⟨b, ks, rfl, e _ _ hb, by omega, hk, q⟩)
    refine q_tup2L g1 g2 fun p1 p2 H1 n1 n2 e1 h1 h2 => ?_
    have l1 : (goals ms).length = ms.length := goalsN_len ms _
    have l2 : (goals ks).length = ks.length := goalsN_len ks _
    refine q_asgL (xs := iv (unls ms ks)) (el_is (el_lcW (n := ms.length) (unl ms ks) ni (ei_rng1 (ev_int (ev_lenL (ev_var rfl) h1) (by rw [iv_len, l1])) (by omega)) walk_range (fun _ _ _ h => h) (by omega) fun i x H2 H3 hi e hy => ?_) rfl) fun c H2 nc e2 hc => ?_
    · obtain ⟨rfl, rfl⟩ := hy
      obtain ⟨x, hx⟩ : ∃ x, (goals ms)[i]? = some x := ⟨_, List.getElem?_eq_getElem (by omega)⟩
      obtain ⟨y, hy⟩ : ∃ y, (goals ks)[i]? = some y := ⟨_, List.getElem?_eq_getElem (by omega)⟩
      refine ⟨Ex.refl _, [some (.ref a), some (.ref b), some (.ref p1), some (.ref p2), none, some (.int (0 + (i : Int)))], rfl, fun Q q => q H3 (Ex.refl H3), et_test (ev_is (ev_intNe (a := (x : Int)) (b := (y : Int)) (ev_ixL (i := i) (ev_var rfl) (ev_int (ev_var rfl) (by omega)) (e _ _ h1) (iv_get hx)) (ev_ixL (i := i) (ev_var rfl) (ev_int (ev_var rfl) (by omega)) (e _ _ h2) (iv_get hy))) ?_), fun _ => ev_int (ev_var rfl) (by omega)⟩
      unfold unl
      rw [List.getD_eq_getElem?_getD, List.getD_eq_getElem?_getD, hx, hy]
      show V.bl (!decide ((x : Int) = (y : Int))) = V.bl (!decide (x = y))
      by_cases h : x = y
      · rw [decide_eq_true h, decide_eq_true (by omega)]
      · rw [decide_eq_false h, decide_eq_false (by omega)]
    · have t1 : ∀ H3, Ex H2 H3 → EvT (tTest (tOp (rNeD K) (tVar 4) (tLst tNil))) [some (.ref a), some (.ref b), some (.ref p1), some (.ref p2), some (.ref c), none] H3 (!decide (unls ms ks = [])) := fun H3 e3 => et_test (ev_neI1 (ev_var rfl) (e3 _ _ hc) el_nil)
      refine s_ret (v := on (lastUn ms ks)) (ev_if (t1 H2 (Ex.refl H2)) (fun z => ?_) (fun z => ?_)) fun H3 e3 => q H3 ((e1.trans e2).trans e3)
      · cases hq : lastUn ms ks with
        | none =>
          have hn : unls ms ks = [] := List.getLast?_eq_none_iff.mp hq
          rw [hn] at z
          cases z
        | some p =>
          obtain ⟨ys, he⟩ := lastAt hq
          refine ev_op (ev_var rfl) (ev_un ev_c ru_neg) (rv_ixL (sq_of hc) ?_)
          rw [he, iv_app]
          exact atI_last _ _
      · have hn : unls ms ks = [] := by
          cases hd : decide (unls ms ks = []) with
          | true => exact of_decide_eq_true hd
          | false =>
            rw [hd] at z
            cases z
        have hq : lastUn ms ks = none := by
          unfold lastUn
          rw [hn]
          rfl
        rw [hq]
        exact ev_c
theorem ok_turn_of (D : Dfn K mg "turn_of" s_turn_of p_turn_of) (B : Bt mg) : Cal P w K mg base "turn_of" p_turn_of 1 sp_turn_of := by
  refine D.cal sc_turn_of (fun vs H Q E h => ?_) (fun f cdv A outer s H vs Q E hr h => ?_)
  · obtain ⟨a, ps, rfl, _⟩ := h
    rfl
  · obtain ⟨a, ps, rfl, ha, hl, q⟩ := h
    have nd := sc_turn_of.nd
    refine ⟨_, (pss_one (ps_ret (pe_callB (cr_sum rfl) (by rfl) B.n_sum (by decide +kernel) (pa_cons (pe_lc (own := [("number", 1)]) (g := gName 1) (tt := tYes) rfl nd (pi_list (pv 0)) (blkOk_by (own := [("number", 1)]) (N := N_turn_of) (sc := defScope s_turn_of) (by decide +kernel)) (fun _ _ _ _ _ => (pg_name (i := 1) nd rfl (Or.inl rfl))) (fun _ _ _ _ _ => pts_nil) (fun _ _ _ _ _ => (pe_op op_add (pv 1) pe_int))) pa_nil))))
      , ?_⟩
    have hL : EvL (tLc (iList K (tVar 0)) (gName 1) tYes (tOp (rI0 fun i j => V.int (i + j)) (tVar 1) (tC (V.int 1))) [1]) (start N_turn_of [V.ref a]) H (iv (ps.map (· + 1))) := by
      refine el_is (el_lcW (fun _ => true) (fun i => ni ((ps.map (· + 1)).getD i 0)) (ei_list (ev_var rfl) ha) walk_lst (fun _ _ e h => e _ _ h) (by rw [iv_len]; omega) fun i x H1 H2 hi e hy => ?_) ?_
      · obtain ⟨rfl, hx⟩ := hy
        obtain ⟨j, hj, rfl⟩ := iv_at hx
        refine ⟨Ex.refl _, [some (.ref a), some (.int (j : Int))], rfl, fun Q q => q H2 (Ex.refl H2), et_yes, fun _ => ev_add (ev_var rfl) ev_c ?_⟩
        rw [List.getD_eq_getElem?_getD, List.getElem?_map, hj]
        rfl
      · rw [given_all, iv_len]
        refine List.ext_getElem? fun i => ?_
        rw [iv, List.getElem?_map, List.getElem?_map, List.getElem?_map]
        by_cases h : i < ps.length
        · rw [List.getElem?_eq_getElem (by rw [List.length_range]; exact h), List.getElem?_eq_getElem h, List.getElem_range]
          show some (ni ((ps.map (· + 1)).getD i 0)) = some (ni (ps[i] + 1))
          rw [List.getD_eq_getElem?_getD, List.getElem?_map, List.getElem?_eq_getElem h]
          rfl
        · rw [List.getElem?_eq_none (by rw [List.length_range]; omega), List.getElem?_eq_none (by omega)]
          rfl
    exact s_ret (ev_sum hL) fun H1 e => q H1 e
theorem ok_common_times (D : Dfn K mg "common_times" s_common_times p_common_times) (B : Bt mg) : Cal P w K mg base "common_times" p_common_times 1 sp_common_times := by
  refine D.cal sc_common_times (fun vs H Q E h => ?_) (fun f cdv A outer s H vs Q E hr h => ?_)
  · obtain ⟨a, ns, rfl, _⟩ := h
    rfl
  · obtain ⟨a, ns, rfl, ha, hp, q⟩ := h
    have nd := sc_common_times.nd
    refine ⟨_, (pss_cons (ps_set (i := 1) nd rfl (Or.inl rfl) pe_int)
      (pss_cons (ps_for PassesOwn.never rfl (pi_list (pv 0)) (pg_name (i := 2) nd rfl (Or.inl rfl))
        (pss_one (ps_set (i := 1) nd rfl (Or.inl rfl) (pe_op op_mul (pe_op op_fdiv (pv 1) (pe_callBfun cr_gcd (by rfl) B.g_gcd (pa_cons (pv 1) (pa_cons (pv 2) pa_nil)))) (pv 2)))))
      (pss_one (ps_ret (pv 1)))))
      , ?_⟩
    refine q_asg (v := .int 1) ev_c fun H1 e1 => ?_
    refine q_forW (ei_list (ev_var rfl) (e1 _ _ ha)) walk_lst (fun i σ' H' => ∃ y, σ' = [some (.ref a), some (.int (common (ns.take i) : Int)), y] ∧ Ex H H') (fun H2 e2 _ => ⟨_, rfl, e1.trans e2⟩) (fun i σ' H' _ hW => ?_) (fun i x σ' H2 H3 hi hW hy => ?_) (fun σ' H' hW => ?_)
    · obtain ⟨y, rfl, e⟩ := hW
      exact e a _ ha
    · obtain ⟨y, rfl, e⟩ := hW
      obtain ⟨rfl, hx⟩ := hy
      obtain ⟨j, hj, rfl⟩ := iv_at hx
      obtain ⟨j0, j1⟩ := hp j (List.mem_of_getElem? hj)
      have hg : 0 < Nat.gcd (common (ns.take i)) j ∧ Nat.gcd (common (ns.take i)) j ≤ 1000 := ⟨Nat.gcd_pos_of_pos_right _ j0, Nat.le_trans (Nat.gcd_le_right _ j0) j1⟩
      have t1 : Ev (tCB rGcd (tCons (tVar 1) (tCons (tVar 2) tNil))) [some (.ref a), some (.int (common (ns.take i) : Int)), some (.int (j : Int))] H3 (.int (Nat.gcd (common (ns.take i)) j : Int)) := ev_cb (vs := [.int (common (ns.take i) : Int), .int (j : Int)]) (ea_cons (ev_var rfl) (ea_cons (ev_var rfl) ea_nil)) fun H1 _ Q q => ⟨_, _, rfl, q H1 (Ex.refl H1)⟩
      have t2 : ((common (ns.take i) : Int) / (Nat.gcd (common (ns.take i)) j : Int)) = ((common (ns.take i) / Nat.gcd (common (ns.take i)) j : Nat) : Int) := (Int.natCast_ediv _ _).symm
      have ec : common (ns.take (i + 1)) = common (ns.take i) / Nat.gcd (common (ns.take i)) j * j := by
        rw [take_snoc hj]
        unfold common
        rw [List.foldl_append]
        rfl
      rw [ec]
      exact s_asg (ev_prod (ev_div (ev_var rfl) t1 ⟨by omega, by omega⟩ t2) (ev_var rfl) (Or.inr ⟨by omega, by omega⟩) (Int.natCast_mul _ _).symm) fun H4 e4 => ⟨_, rfl, e.trans e4⟩
    · obtain ⟨y, rfl, e⟩ := hW
      refine s_ret (ev_int (ev_var rfl) ?_) fun H2 e2 => q H2 (e.trans e2)
      rw [iv_len, List.take_length]
end
end K74
/-! walks: rounds_of, often, order_of -/
namespace K74
open PySem PySem.Spec PyProof.Rows L2 Evl
/-! ### what they compute -/
def unseen (seen : List Nat) : Nat → Nat
  | 0 => 0
  | n + 1 => unseen seen n + if n ∈ seen then 0 else 1
theorem unseen_snoc {seen : List Nat} {x : Nat} (h : x ∉ seen) : ∀ n, unseen (seen ++ [x]) n + (if x < n then 1 else 0) = unseen seen n
  | 0 => rfl
  | n + 1 => by
    have ih := unseen_snoc h n
    show unseen (seen ++ [x]) n + (if n ∈ seen ++ [x] then 0 else 1) + (if x < n + 1 then 1 else 0) = unseen seen n + if n ∈ seen then 0 else 1
    by_cases e : n = x
    · subst e
      rw [if_pos (List.mem_append.mpr (.inr (List.mem_singleton.mpr rfl))), if_neg h, if_pos (Nat.lt_succ_self _)]
      rw [if_neg (Nat.lt_irrefl _)] at ih
      omega
    · have e1 : (n ∈ seen ++ [x]) = (n ∈ seen) := propext ⟨fun m => (List.mem_append.mp m).elim (fun z => z) fun z => absurd (List.mem_singleton.mp z) e, fun m => List.mem_append.mpr (.inl m)⟩
      have e2 : (if x < n + 1 then 1 else 0) = (if x < n then 1 else 0 : Nat) := by
        by_cases hx : x < n
        · rw [if_pos hx, if_pos (by omega)]
        · rw [if_neg hx, if_neg (by omega)]
      simp only [e1]
      rw [e2]
      omega
def chase (ms : List Nat) : Nat → Nat → List Nat → List Nat → List Nat × List Nat
  | 0, _, lot, seen => (lot, seen)
  | k + 1, here, lot, seen => if here ∈ seen then (lot, seen) else chase ms k (ms.getD here 0) (lot ++ [here]) (seen ++ [here])
def roundStep (ms : List Nat) (st : List (List Nat) × List Nat) (first : Nat) : List (List Nat) × List Nat :=
  let r := chase ms (unseen st.2 ms.length + 1) first [] st.2
  (if r.1 = [] then st.1 else st.1 ++ [r.1], r.2)
def roundsTo (ms : List Nat) (i : Nat) : List (List Nat) × List Nat := (List.range i).foldl (roundStep ms) ([], [])
def rounds (ms : List Nat) : List (List Nat) := (roundsTo ms ms.length).1
theorem roundsTo_succ (ms : List Nat) (i : Nat) : roundsTo ms (i + 1) = roundStep ms (roundsTo ms i) i := by
  unfold roundsTo
  rw [List.range_succ, List.foldl_append]
  rfl
def kd (seen : List Nat) : List (Key × V) := seen.map fun i : Nat => (Sum.inl (i : Int), V.bl true)
theorem kd_any (seen : List Nat) (x : Nat) : (valV (kd seen) (Sum.inl (x : Int))).isSome = decide (x ∈ seen) := by
  rw [← valV_any]
  unfold kd
  rw [List.any_map]
  induction seen with
  | nil => rfl
  | cons a l ih =>
    rw [List.any_cons, ih]
    show (decide ((Sum.inl (a : Int) : Key) = Sum.inl (x : Int)) || decide (x ∈ l)) = _
    by_cases h : x = a
    · subst h
      simp
    · have h1 : ¬ (Sum.inl (a : Int) : Key) = Sum.inl (x : Int) := fun z => h (by
        have := Sum.inl.inj z
        omega)
      rw [decide_eq_false h1]
      simp [h]
theorem kd_snoc {seen : List Nat} {x : Nat} (h : x ∉ seen) : putK (kd seen) (Sum.inl (x : Int)) (.bl true) = kd (seen ++ [x]) := by
  have e := kd_any seen x
  rw [decide_eq_false h] at e
  rw [putK_new _ (Option.isNone_iff_eq_none.mp (by
    cases q : valV (kd seen) (Sum.inl (x : Int)) with
    | none => rfl
    | some v =>
      rw [q] at e
      cases e))]
  unfold kd
  rw [List.map_append]
  rfl
/-! ### lists of lists -/
def Held (H : Hp) (rs : List Addr) (lots : List (List Nat)) : Prop := Paired (fun r l => H r = some (.lst (iv l))) rs lots
theorem Held.ex {H H' : Hp} : ∀ {rs : List Addr} {lots : List (List Nat)}, Held H rs lots → (∀ r ∈ rs, ∀ o, H r = some o → H' r = some o) → Held H' rs lots
  | _, _, .nil, _ => .nil
  | _, _, .cons h t, e => .cons (e _ (List.mem_cons_self ..) _ h) (Held.ex t fun r hr => e r (List.mem_cons_of_mem _ hr))
theorem Held.mono {H H' : Hp} {rs : List Addr} {lots : List (List Nat)} (h : Held H rs lots) (e : Ex H H') : Held H' rs lots := h.ex fun r _ => e r
theorem Held.at {H : Hp} : ∀ {rs : List Addr} {lots : List (List Nat)} {i : Nat} {r : Addr}, Held H rs lots → rs[i]? = some r → ∃ l, lots[i]? = some l ∧ H r = some (.lst (iv l))
  | _, _, _, _, .nil, h => by simp at h
  | _, _, 0, _, .cons h _, e => by
    simp at e
    subst e
    exact ⟨_, rfl, h⟩
  | _, _, i + 1, r, .cons _ t, e => by
    obtain ⟨l, h1, h2⟩ := Held.at (i := i) (r := r) t (by simpa using e)
    exact ⟨l, by simpa using h1, h2⟩
theorem Held.len {H : Hp} {rs : List Addr} {lots : List (List Nat)} (h : Held H rs lots) : rs.length = lots.length := Paired.length h
def RetLL (lots : List (List Nat)) (H : Hp) (Q : VK) : Prop := ∀ p rs H2, H p = none → (∀ r ∈ rs, H r = none) → Ex H H2 → H2 p = some (.lst (rs.map V.ref)) → Held H2 rs lots → Q (.ref p) H2
def EvLL (te : TE) (σ : L2.St) (H : Hp) (lots : List (List Nat)) : Prop := ∀ H1, Ex H H1 → ∀ Q : VK, RetLL lots H1 Q → te σ H1 Q
def rv (rs : List Addr) : List V := rs.map V.ref
section
variable {K : PySem.W.Frag} {σ : L2.St} {H H' : Hp} {ta tb te tl ty td : TE} {t : TT} {g : TG} {wi : TI} {x y z v : V} {D : Ends} {tu tz : TS}
theorem ell_call {sp : Sp} {E : XK} {vs : List V} {ta : TA} {lots : List (List Nat)} (h : EvA ta σ H vs) (hs : ∀ H1, Ex H H1 → ∀ Q E, RetLL lots H1 Q → sp vs H1 Q E) : EvLL (tCall sp [] E ta) σ H lots := fun H1 e Q q =>
  h H1 e _ fun H2 e2 => by
    have g := hs H2 (e.trans e2) Q E fun p rs H3 np nr e3 hp hr => q p rs H3 (fresh_back e2 np) (fun r hr' => fresh_back e2 (nr r hr')) (e2.trans e3) hp hr
    rw [List.append_nil]
    exact g
/-- the argument a new list -/
theorem ell_callL {sp : Sp} {E : XK} {xs : List V} {lots : List (List Nat)} (h : EvL te σ H xs) (hs : ∀ p H1, Ex H H1 → H1 p = some (.lst xs) → ∀ Q E, RetLL lots H1 Q → sp [.ref p] H1 Q E) : EvLL (tCall sp [] E (tCons te tNil)) σ H lots := fun H1 e Q q =>
  h H1 e _ fun p H2 _ e2 hx => hs p H2 (e.trans e2) hx Q E fun p rs H3 np nr e3 hp hr => q p rs H3 (fresh_back e2 np) (fun r hr' => fresh_back e2 (nr r hr')) (e2.trans e3) hp hr
theorem el_lens {lots : List (List Nat)} {j : Nat} (hj : j < σ.length) (h : EvLL te σ H lots) (hn : lots.length ≤ 1000) : EvL (tLc (iList K te) (gName j) tYes (tCB (Evl.rLenS K) (tCons (tVar j) tNil)) [j]) σ H (iv (lots.map List.length)) := fun H1 e Q q =>
  h H1 e _ fun p rs H2 np nr e2 hp hr => by
    have hl := hr.len
    have g : EvL (tLc (iList K (tC (.ref p))) (gName j) tYes (tCB (Evl.rLenS K) (tCons (tVar j) tNil)) [j]) σ H2 (iv (lots.map List.length)) := by
      refine el_is (el_lcW (n := rs.length) (fun _ => true) (fun i => ni ((lots.map List.length).getD i 0)) (ei_list ev_c hp) (by
        have w := walk_lst (K := K) (a := p) (xs := rs.map V.ref)
        rw [List.length_map] at w
        exact w) (fun _ _ e h => e _ _ h) (by omega) fun i x H3 H4 hi e3 hy => ?_) ?_
      · obtain ⟨rfl, hx⟩ := hy
        obtain ⟨r, hr2⟩ : ∃ r, rs[i]? = some r := ⟨_, List.getElem?_eq_getElem hi⟩
        rw [List.getElem?_map, hr2] at hx
        cases (show V.ref r = x from Option.some.inj hx)
        obtain ⟨l, hl1, hl2⟩ := hr.at hr2
        refine ⟨Ex.refl _, (wipe σ [j]).set j (some (.ref r)), ?_, fun Q q => q H4 (Ex.refl H4), et_yes, fun _ => ev_int (ev_lenL (ev_var ?_) (e3 _ _ hl2)) ?_⟩
        · show ((σ.set j none).set j (some (.ref r))).set j none = σ.set j none
          rw [List.set_set, List.set_set]
        · show ((σ.set j none).set j (some (.ref r)))[j]? = _
          rw [List.getElem?_set_self (by rw [List.length_set]; exact hj)]
        · rw [iv_len, List.getD_eq_getElem?_getD, List.getElem?_map, hl1]
          rfl
      · rw [given_all]
        refine List.ext_getElem? fun i => ?_
        rw [iv, List.getElem?_map, List.getElem?_map, List.getElem?_map]
        by_cases h : i < rs.length
        · rw [List.getElem?_eq_getElem (by rw [List.length_range]; exact h), List.getElem_range, List.getElem?_eq_getElem (by omega)]
          show some (ni ((lots.map List.length).getD i 0)) = some (ni (lots[i]).length)
          rw [List.getD_eq_getElem?_getD, List.getElem?_map, List.getElem?_eq_getElem (by omega)]
          rfl
        · rw [List.getElem?_eq_none (by rw [List.length_range]; omega), List.getElem?_eq_none (by omega)]
          rfl
    exact g H2 (Ex.refl H2) Q fun c H3 nc e3 hc => q c H3 (fresh_back e2 nc) (e2.trans e3) hc
theorem s_forLL {lots : List (List Nat)} (h : EvLL te σ H lots) (k : ∀ p rs H2, H p = none → (∀ r ∈ rs, H r = none) → Ex H H2 → H2 p = some (.lst (rs.map V.ref)) → Held H2 rs lots → tFor (iList K (tC (.ref p))) g tu D σ H2) : tFor (iList K te) g tu D σ H :=
  h H (Ex.refl H) _ k
theorem q_forLL {lots : List (List Nat)} (h : EvLL te σ H lots) (k : ∀ p rs H2, H p = none → (∀ r ∈ rs, H r = none) → Ex H H2 → H2 p = some (.lst (rs.map V.ref)) → Held H2 rs lots → tSeq (tFor (iList K (tC (.ref p))) g tu) tz D σ H2) : tSeq (tFor (iList K te) g tu) tz D σ H :=
  h H (Ex.refl H) _ k
theorem q_parL {i j : Nat} {xs : List V} (h1 : Ev ta σ H v) (h2 : EvL tb σ H xs) (k : ∀ p H1, H p = none → Ex H H1 → H1 p = some (.lst xs) → tz D ((σ.set i (some v)).set j (some (.ref p))) H1) : tSeq (tPar i j (tCons ta (tCons tb tNil))) tz D σ H :=
  h1 H (Ex.refl H) _ fun H1 e1 => h2 H1 e1 _ fun p H2 np e2 hp => ⟨_, _, rfl, k p H2 (fresh_back e1 np) (e1.trans e2) hp⟩
theorem q_parDL {i j : Nat} (k : ∀ d p H1, H d = none → H p = none → d ≠ p → Ex H H1 → H1 d = some (.dK []) → H1 p = some (.lst []) → tz D ((σ.set i (some (.ref d))).set j (some (.ref p))) H1) : tSeq (tPar i j (tCons tDNewK (tCons (tLst tNil) tNil))) tz D σ H :=
  fun d nd => ⟨Nat.zero_le _, fun p np => ⟨_, _, rfl, by
    have hne : d ≠ p := fun z => by
      rw [← z, upd_same] at np
      cases np
    refine k d p _ nd (fresh_back (Ex.new nd) np) hne ((Ex.new nd).trans (Ex.new np)) ?_ upd_same
    rw [upd_ne hne]
    exact upd_same⟩⟩
theorem et_dnot {d : Addr} {seen : List Nat} {x : Nat} (h1 : Ev ty σ H (.int (x : Int))) (h2 : Ev td σ H (.ref d)) (hd : H d = some (.dK (kd seen))) : EvT (tB (tDNotIn ty td)) σ H (!decide (x ∈ seen)) := fun H1 e Q q =>
  h1 H1 e _ fun H2 e2 => h2 H2 (e.trans e2) _ fun H3 e3 => ⟨d, _, rfl, DGet.k (k := Sum.inl (x : Int)) (((e.trans e2).trans e3) _ _ hd), _, rfl, by
    rw [kd_any]
    exact q H3 (e2.trans e3)⟩
theorem q_dput {d : Addr} {seen : List Nat} {x : Nat} {tv : TE} (h1 : Ev tv σ H (.bl true)) (h2 : Ev td σ H (.ref d)) (h3 : Ev ty σ H (.int (x : Int))) (hd : H d = some (.dK (kd seen))) (hx : x ∉ seen) (hz : seen.length < 100000) (k : ∀ H1, Ex H H1 → tz D σ (upd H1 d (.dK (kd (seen ++ [x]))))) : tSeq (sDPut td ty tv) tz D σ H :=
  h1 H (Ex.refl H) _ fun H1 e1 => h2 H1 e1 _ fun H2 e2 => h3 H2 (e1.trans e2) _ fun H3 e3 => ⟨d, _, rfl, DPut.k (k := Sum.inl (x : Int)) (((e1.trans e2).trans e3) _ _ hd) (sz_lt (by unfold kd; rw [List.length_map]; exact hz)), by
    rw [kd_snoc hx]
    exact k H3 ((e1.trans e2).trans e3)⟩
end
def sp_rounds_of : Sp := fun vs H Q _ => ∃ (a : Addr) (ms : List Nat), vs = [.ref a] ∧ H a = some (.lst (iv ms)) ∧ ms.length ≤ 60 ∧ (∀ p ∈ ms, p < ms.length) ∧ RetLL (rounds ms) H Q
section
variable {P : Program} {w : World} {K : PySem.W.Frag} {mg : Str → Option Value} {base : Heap}
theorem ok_rounds_of (D : Dfn K mg "rounds_of" s_rounds_of p_rounds_of) (B : Bt mg) : Cal P w K mg base "rounds_of" p_rounds_of 1 sp_rounds_of := by
  refine D.cal sc_rounds_of (fun vs H Q E h => ?_) (fun f cdv A outer s H vs Q E hr h => ?_)
  · obtain ⟨a, ms, rfl, _⟩ := h
    rfl
  · obtain ⟨a, ms, rfl, ha, hl, hp, q⟩ := h
    have nd := sc_rounds_of.nd
    refine ⟨_, (pss_cons (ps_par (by rfl) nd (i := 1) (j := 2) rfl rfl (by decide) rfl rfl (pa_cons pe_dnewK (pa_cons (pe_lst pa_nil) pa_nil)) (by rfl))
      (pss_cons (ps_for PassesOwn.never rfl (pi_range1 (by rfl) B.n_range (pa_cons (pe_callB (r := Evl.rLenS K) call_len_seq (by rfl) B.n_len (by decide +kernel) (pa_cons (pv 0) pa_nil)) pa_nil)) (pg_name (i := 3) nd rfl (Or.inl rfl))
        (pss_cons (ps_par (by rfl) nd (i := 4) (j := 5) rfl rfl (by decide) rfl rfl (pa_cons (pv 3) (pa_cons (pe_lst pa_nil) pa_nil)) (by rfl))
        (pss_cons (ps_while PassesOwn.never (pt_cmp (pc_dnotin (hu_of hr) (pv 4) (pv 1)))
          (pss_cons (ps_dput (hu_of hr) (pv 1) (pv 4) pe_bl rfl)
          (pss_cons (ps_expr (pe_bm PySem.F.plainAttrs_list PySem.F.slot_list_append PySem.F.type_list_append mt_append (pv 5) (pa_cons (pv 4) pa_nil)))
          (pss_one (ps_set (i := 4) nd rfl (Or.inl rfl) (pe_ix (r := rIxL K) ix_list (pv 0) (pv 4) (fun _ _ => rfl)))))))
        (pss_one (ps_if (pt_cmpR (op_neD (hu64 hr)) (pv 5) (pe_lst pa_nil) (nomark _))
          (pss_one (ps_expr (pe_bm PySem.F.plainAttrs_list PySem.F.slot_list_append PySem.F.type_list_append mt_append (pv 2) (pa_cons (pv 5) pa_nil))))
          pss_nil)))))
      (pss_one (ps_ret (pv 2)))))
      , ?_⟩
    refine q_parDL fun d c H1 nd1 nc1 hdc e1 h1 h2 => ?_
    have hms : ∀ i, i < ms.length → ms.getD i 0 < ms.length := fun i hi => by
      rw [List.getD_eq_getElem?_getD, List.getElem?_eq_getElem hi]
      exact hp _ (List.getElem_mem hi)
    refine q_forW (n := ms.length) (ei_rng1 (ev_int (ev_lenL (ev_var rfl) (e1 _ _ ha)) (by rw [iv_len])) (by omega)) walk_range
      (fun i σ' H' => ∃ rs y3 y4 y5, σ' = [some (.ref a), some (.ref d), some (.ref c), y3, y4, y5] ∧ Ex H H' ∧ H' d = some (.dK (kd (roundsTo ms i).2)) ∧ H' c = some (.lst (rs.map V.ref)) ∧ Held H' rs (roundsTo ms i).1 ∧ (∀ r ∈ rs, H r = none) ∧ c ∉ rs ∧ rs.length ≤ i ∧ (roundsTo ms i).2.length + unseen (roundsTo ms i).2 ms.length = ms.length)
      (fun H2 e2 _ => ⟨[], _, _, _, rfl, e1.trans e2, e2 _ _ h1, e2 _ _ h2, .nil, (fun _ hr => absurd hr List.not_mem_nil), List.not_mem_nil, Nat.le_refl _, ?_⟩) (fun _ _ _ _ _ => trivial) (fun i x σ' H2 H3 hi hW hy => ?_) (fun σ' H' hW => ?_)
    · have : ∀ n, unseen [] n = n := fun n => by
        induction n with
        | zero => rfl
        | succ n ih =>
          show unseen [] n + 1 = n + 1
          rw [ih]
      show 0 + unseen [] ms.length = ms.length
      rw [this]
      exact Nat.zero_add _
    · obtain ⟨rs, y3, y4, y5, rfl, e, hd, hc, hh, hf, crs, hrl, hsz⟩ := hW
      obtain ⟨rfl, rfl⟩ := hy
      generalize hst : roundsTo ms i = st at hd hh hsz
      refine q_parL (v := .int (i : Int)) (ev_int (ev_var rfl) (by omega)) el_nil fun l H4 nl e4 hl4 => ?_
      have ld : d ≠ l := ne_of_none hd nl
      have lc : c ≠ l := ne_of_none hc nl
      have nlH : H l = none := fresh_back e nl
      have lrs : l ∉ rs := fun hm => by
        obtain ⟨k, hk⟩ := List.getElem?_of_mem hm
        obtain ⟨q1, _, q2⟩ := hh.at hk
        rw [nl] at q2
        cases q2
      have drs : d ∉ rs := fun hm => by
        obtain ⟨k, hk⟩ := List.getElem?_of_mem hm
        obtain ⟨q1, _, q2⟩ := hh.at hk
        rw [hd] at q2
        cases q2
      refine q_while (fun m σ' H' => ∃ (here : Nat) (lot seen : List Nat), σ' = [some (.ref a), some (.ref d), some (.ref c), some (.int (0 + (i : Int))), some (.int (here : Int)), some (.ref l)] ∧ here < ms.length ∧ m = unseen seen ms.length ∧ seen.length + m = ms.length ∧ lot.length ≤ seen.length ∧ chase ms (m + 1) here lot seen = chase ms (unseen st.2 ms.length + 1) i [] st.2 ∧
          Ex H H' ∧ H' d = some (.dK (kd seen)) ∧ H' l = some (.lst (iv lot)) ∧ H' c = some (.lst (rs.map V.ref)) ∧ Held H' rs st.1) (unseen st.2 ms.length)
        ⟨i, [], st.2, rfl, hi, rfl, hsz, Nat.zero_le _, rfl, e.trans e4, e4 _ _ hd, hl4, e4 _ _ hc, hh.mono e4⟩ (fun m σ' H5 hW => ?_)
      obtain ⟨here, lot, seen, rfl, hn, rfl, hsz5, hlz, hch, e5, hd5, hl5, hc5, hh5⟩ := hW
      refine ⟨!decide (here ∈ seen), et_dnot (ev_var rfl) (ev_var rfl) hd5, fun hb H6 e6 => ?_, fun hb H6 e6 => ?_⟩
      · have hnot : here ∉ seen := fun z => by
          rw [decide_eq_true z] at hb
          cases hb
        have hu := unseen_snoc hnot ms.length
        rw [if_pos hn] at hu
        refine ⟨_, fun σ2 H2 hN => ⟨unseen (seen ++ [here]) ms.length, by omega, hN⟩, ?_⟩
        refine q_dput ev_c (ev_var rfl) (ev_var rfl) (e6 _ _ hd5) hnot (by omega) fun H7 e7 => ?_
        have hl7 : (upd H7 d (.dK (kd (seen ++ [here])))) l = some (.lst (iv lot)) := by
          rw [upd_ne (Ne.symm ld)]
          exact e7 _ _ (e6 _ _ hl5)
        refine q_app hl7 (ev_var rfl) (ev_var rfl) (by rw [iv_len]; omega) fun H8 e8 => ?_
        have e9 : Ex H (upd H8 l (.lst (iv lot ++ [.int (here : Int)]))) := Ex.mut ((Ex.mut ((e5.trans e6).trans e7) nd1).trans e8) nlH
        have hx : ms[here]? = some (ms.getD here 0) := by
          rw [List.getD_eq_getElem?_getD, List.getElem?_eq_getElem hn]
          rfl
        refine s_asg (ev_ixL (i := here) (ev_var rfl) (ev_var rfl) (e9 _ _ ha) (iv_get hx)) fun H10 e10 => ⟨ms.getD here 0, lot ++ [here], seen ++ [here], rfl, hms _ hn, rfl, ?_, ?_, ?_, e9.trans e10, e10 _ _ ?_, e10 _ _ ?_, e10 _ _ ?_, Held.mono ?_ e10⟩
        · rw [List.length_append, List.length_singleton]
          omega
        · rw [List.length_append, List.length_append, List.length_singleton]
          omega
        · have : chase ms (unseen seen ms.length + 1) here lot seen = chase ms (unseen seen ms.length) (ms.getD here 0) (lot ++ [here]) (seen ++ [here]) := by
            show (if here ∈ seen then _ else _) = _
            rw [if_neg hnot]
          rw [← hch, this, ← hu]
        · rw [upd_ne ld]
          exact e8 _ _ upd_same
        · rw [upd_same, iv_app]
          rfl
        · rw [upd_ne lc]
          refine e8 _ _ ?_
          rw [upd_ne (Ne.symm hdc)]
          exact e7 _ _ (e6 _ _ hc5)
        · refine Held.ex (Held.mono (Held.ex (Held.mono hh5 (e6.trans e7)) fun r hr o ho => ?_) e8) fun r hr o ho => ?_
          · rw [upd_ne (show r ≠ d from fun z => drs (by rw [← z]; exact hr))]
            exact ho
          · rw [upd_ne (show r ≠ l from fun z => lrs (by rw [← z]; exact hr))]
            exact ho
      · have hin : here ∈ seen := by
          cases hq : decide (here ∈ seen) with
          | true => exact of_decide_eq_true hq
          | false =>
            rw [hq] at hb
            cases hb
        have hR : chase ms (unseen st.2 ms.length + 1) i [] st.2 = (lot, seen) := by
          rw [← hch]
          show (if here ∈ seen then _ else _) = _
          rw [if_pos hin]
        have hS : roundsTo ms (i + 1) = (if lot = [] then st.1 else st.1 ++ [lot], seen) := by
          rw [roundsTo_succ, hst]
          unfold roundStep
          rw [hR]
        refine s_when (b := !decide (lot = [])) (et_test (ev_neI1 (ev_var rfl) (e6 _ _ hl5) el_nil)) (fun hb2 H7 e7 => ?_) (fun hb2 H7 e7 => ?_)
        · have hlot : lot ≠ [] := fun z => by
            rw [decide_eq_true z] at hb2
            cases hb2
          rw [if_neg hlot] at hS
          refine s_app ((e6.trans e7) _ _ hc5) (ev_var rfl) (ev_var rfl) (by rw [List.length_map]; omega) fun H8 e8 => ⟨rs ++ [l], _, _, _, rfl, Ex.mut (((e5.trans e6).trans e7).trans e8) nc1, ?_, ?_, ?_, fun r hr => ?_, fun hm => ?_, ?_, ?_⟩
          · rw [hS, upd_ne hdc]
            exact ((e6.trans e7).trans e8) _ _ hd5
          · rw [upd_same, List.map_append]
            rfl
          · rw [hS]
            refine Paired.snoc (Held.ex (Held.mono hh5 ((e6.trans e7).trans e8)) fun r hr o ho => ?_) ?_
            · rw [upd_ne (show r ≠ c from fun z => crs (by rw [← z]; exact hr))]
              exact ho
            · rw [upd_ne (Ne.symm lc)]
              exact ((e6.trans e7).trans e8) _ _ hl5
          · rcases List.mem_append.mp hr with z | z
            · exact hf r z
            · rw [List.mem_singleton.mp z]
              exact nlH
          · rcases List.mem_append.mp hm with z | z
            · exact crs z
            · exact lc (List.mem_singleton.mp z)
          · rw [List.length_append, List.length_singleton]
            omega
          · rw [hS]
            exact hsz5
        · have hlot : lot = [] := by
            cases hq : decide (lot = []) with
            | true => exact of_decide_eq_true hq
            | false =>
              rw [hq] at hb2
              cases hb2
          rw [if_pos hlot] at hS
          refine ⟨rs, _, _, _, rfl, (e5.trans e6).trans e7, ?_, (e6.trans e7) _ _ hc5, ?_, hf, crs, by omega, ?_⟩
          · rw [hS]
            exact (e6.trans e7) _ _ hd5
          · rw [hS]
            exact Held.mono hh5 (e6.trans e7)
          · rw [hS]
            exact hsz5
    · obtain ⟨rs, y3, y4, y5, rfl, e, hd, hc, hh, hf, crs, hrl, hsz⟩ := hW
      exact s_ret (ev_var rfl) fun H2 e2 => q c rs H2 nc1 hf (e.trans e2) (e2 _ _ hc) (hh.mono e2)
end
end K74
/-! the rounds' laws; walks: often, order_of -/
namespace K74
open PySem PySem.Spec PyProof.Rows L2 Evl
theorem chase_spec (ms : List Nat) : ∀ (k here : Nat) (lot seen : List Nat), ∃ d, chase ms k here lot seen = (lot ++ d, seen ++ d) ∧ (0 < k → here ∈ seen ++ d) ∧ d.length ≤ k
  | 0, here, lot, seen => ⟨[], by simp [chase], fun h => absurd h (Nat.lt_irrefl _), Nat.le_refl _⟩
  | k + 1, here, lot, seen => by
    show ∃ d, (if here ∈ seen then (lot, seen) else chase ms k (ms.getD here 0) (lot ++ [here]) (seen ++ [here])) = _ ∧ _ ∧ _
    by_cases h : here ∈ seen
    · rw [if_pos h]
      exact ⟨[], by simp, fun _ => by simpa using h, Nat.zero_le _⟩
    · rw [if_neg h]
      obtain ⟨d, e, _, hl⟩ := chase_spec ms k (ms.getD here 0) (lot ++ [here]) (seen ++ [here])
      refine ⟨here :: d, by rw [e]; simp, fun _ => by simp, ?_⟩
      rw [List.length_cons]
      omega
theorem chase_lt (ms : List Nat) (hms : ∀ i, i < ms.length → ms.getD i 0 < ms.length) : ∀ (k here : Nat) (lot seen : List Nat), here < ms.length → (∀ x ∈ lot, x < ms.length) → ∀ x ∈ (chase ms k here lot seen).1, x < ms.length
  | 0, here, lot, seen, _, hl => hl
  | k + 1, here, lot, seen, hh, hl => by
    show ∀ x ∈ (if here ∈ seen then (lot, seen) else chase ms k (ms.getD here 0) (lot ++ [here]) (seen ++ [here])).1, _
    by_cases h : here ∈ seen
    · rw [if_pos h]
      exact hl
    · rw [if_neg h]
      refine chase_lt ms hms k _ _ _ (hms _ hh) fun x hx => ?_
      rcases List.mem_append.mp hx with z | z
      · exact hl x z
      · rw [List.mem_singleton.mp z]
        exact hh
theorem hms_of {ms : List Nat} (hp : ∀ p ∈ ms, p < ms.length) : ∀ i, i < ms.length → ms.getD i 0 < ms.length := fun i hi => by
  rw [List.getD_eq_getElem?_getD, List.getElem?_eq_getElem hi]
  exact hp _ (List.getElem_mem hi)
theorem unseen_le (seen : List Nat) : ∀ n, unseen seen n ≤ n
  | 0 => Nat.le_refl _
  | n + 1 => by
    have := unseen_le seen n
    show unseen seen n + (if n ∈ seen then 0 else 1) ≤ n + 1
    split <;> omega
structure RoundsOk (ms : List Nat) (i : Nat) (st : List (List Nat) × List Nat) : Prop where
  lt : ∀ lot ∈ st.1, ∀ x ∈ lot, x < ms.length
  pos : ∀ lot ∈ st.1, lot ≠ []
  few : st.1.length ≤ i
  short : ∀ lot ∈ st.1, lot.length ≤ ms.length + 1
  cover : ∀ x ∈ st.2, ∃ lot ∈ st.1, x ∈ lot
  all : ∀ j, j < i → j ∈ st.2
theorem roundsOk {ms : List Nat} (hp : ∀ p ∈ ms, p < ms.length) : ∀ i, i ≤ ms.length → RoundsOk ms i (roundsTo ms i)
  | 0, _ => ⟨fun _ h => absurd h List.not_mem_nil, fun _ h => absurd h List.not_mem_nil, Nat.le_refl _, fun _ h => absurd h List.not_mem_nil, fun _ h => absurd h List.not_mem_nil, fun _ h => absurd h (Nat.not_lt_zero _)⟩
  | i + 1, hi => by
    have ih := roundsOk hp i (by omega)
    rw [roundsTo_succ]
    generalize roundsTo ms i = st at ih
    have hlt := chase_lt ms (hms_of hp) (unseen st.2 ms.length + 1) i [] st.2 (by omega) (fun _ h => absurd h List.not_mem_nil)
    obtain ⟨d, e, hin, hl⟩ := chase_spec ms (unseen st.2 ms.length + 1) i [] st.2
    have hul := unseen_le st.2 ms.length
    unfold roundStep
    rw [List.nil_append] at e
    rw [e] at hlt ⊢
    have hin := hin (Nat.succ_pos _)
    show RoundsOk ms (i + 1) (if d = [] then st.1 else st.1 ++ [d], st.2 ++ d)
    have hall : ∀ j, j < i + 1 → j ∈ st.2 ++ d := fun j hj => by
      by_cases e : j = i
      · rw [e]
        exact hin
      · exact List.mem_append.mpr (.inl (ih.all j (by omega)))
    by_cases hd : d = []
    · subst hd
      rw [if_pos rfl]
      refine ⟨ih.lt, ih.pos, Nat.le_succ_of_le ih.few, ih.short, fun x hx => ih.cover x (by simpa using hx), hall⟩
    · rw [if_neg hd]
      refine ⟨fun lot h => ?_, fun lot h => ?_, ?_, fun lot h => ?_, fun x hx => ?_, hall⟩
      · rcases List.mem_append.mp h with z | z
        · exact ih.lt lot z
        · rw [List.mem_singleton.mp z]
          exact hlt
      · rcases List.mem_append.mp h with z | z
        · exact ih.pos lot z
        · rw [List.mem_singleton.mp z]
          exact hd
      · rw [List.length_append, List.length_singleton]
        exact Nat.succ_le_succ ih.few
      · rcases List.mem_append.mp h with z | z
        · exact ih.short lot z
        · rw [List.mem_singleton.mp z]
          omega
      · rcases List.mem_append.mp hx with z | z
        · obtain ⟨lot, h1, h2⟩ := ih.cover x z
          exact ⟨lot, List.mem_append.mpr (.inl h1), h2⟩
        · exact ⟨d, List.mem_append.mpr (.inr (List.mem_singleton.mpr rfl)), z⟩
theorem rounds_ok {ms : List Nat} (hp : ∀ p ∈ ms, p < ms.length) : RoundsOk ms ms.length (roundsTo ms ms.length) := roundsOk hp _ (Nat.le_refl _)
def oftenLotN (t : Nat) (lot acc : List Nat) : Nat → List Nat
  | 0 => acc
  | i + 1 => (oftenLotN t lot acc i).set (lot.getD i 0) (lot.getD ((i + t) % lot.length) 0)
def oftenLot (t : Nat) (acc lot : List Nat) : List Nat := oftenLotN t lot acc lot.length
def often (ms : List Nat) (t : Nat) : List Nat := (rounds ms).foldl (oftenLot t) ms
theorem oftenLotN_len (t : Nat) (lot acc : List Nat) : ∀ i, (oftenLotN t lot acc i).length = acc.length
  | 0 => rfl
  | i + 1 => by
    show ((oftenLotN t lot acc i).set _ _).length = _
    rw [List.length_set, oftenLotN_len t lot acc i]
theorem often_len (t : Nat) : ∀ (lots : List (List Nat)) (acc : List Nat), (lots.foldl (oftenLot t) acc).length = acc.length
  | [], _ => rfl
  | lot :: lots, acc => by
    rw [List.foldl_cons, often_len t lots]
    exact oftenLotN_len t lot acc _
def sp_often : Sp := fun vs H Q _ => ∃ (a : Addr) (ms : List Nat) (t : Nat), vs = [.ref a, .int (t : Int)] ∧ H a = some (.lst (iv ms)) ∧ ms.length ≤ 60 ∧ (∀ p ∈ ms, p < ms.length) ∧ RetL (iv (often ms t)) H Q
def sp_order_of : Sp := fun vs H Q _ => ∃ (n : Nat) (a : Addr) (ps : List Nat), vs = [.int (n : Int), .ref a] ∧ H a = some (.lst (iv ps)) ∧ n ≤ 60 ∧ ps.length ≤ 10000 ∧ (∀ p ∈ ps, p < n) ∧ RetV (.int (common ((rounds (mvs n ps)).map List.length) : Int)) H Q
theorem move_mem {α : Type} {l : List α} {p : Nat} {x : α} (h : x ∈ move l p) : x ∈ l := by
  unfold move at h
  rcases List.mem_append.mp h with z | z
  · rcases List.mem_append.mp z with z | z
    · exact List.mem_of_mem_drop z
    · exact List.mem_of_mem_drop (List.mem_of_mem_take z)
  · exact List.mem_of_mem_take z
theorem mvs_lt (n : Nat) : ∀ (ps l : List Nat), (∀ x ∈ l, x < n) → ∀ x ∈ ps.foldl move l, x < n
  | [], _, h => h
  | p :: ps, l, h => mvs_lt n ps (move l p) fun x hx => h x (move_mem hx)
theorem mvs_ok {n : Nat} {ps : List Nat} (h : ∀ p ∈ ps, p < n) : ∀ x ∈ mvs n ps, x < (mvs n ps).length := by
  rw [mvs_len h]
  exact mvs_lt n ps _ fun x hx => List.mem_range.mp hx
section
variable {P : Program} {w : World} {K : PySem.W.Frag} {mg : Str → Option Value} {base : Heap}
theorem ok_often (D : Dfn K mg "often" s_often p_often) (B : Bt mg) (c_rounds_of : Cal P w K mg base "rounds_of" p_rounds_of 1 sp_rounds_of) : Cal P w K mg base "often" p_often 2 sp_often := by
  refine D.cal sc_often (fun vs H Q E h => ?_) (fun f cdv A outer s H vs Q E hr h => ?_)
  · obtain ⟨a, ms, t, rfl, _⟩ := h
    rfl
  · obtain ⟨a, ms, t, rfl, ha, hl, hp, q⟩ := h
    have nd := sc_often.nd
    have R := rounds_ok hp
    refine ⟨_, (pss_cons (ps_set (i := 2) nd rfl (Or.inl rfl) (pe_callTy call_list_of (by rfl) B.n_list (by decide +kernel) (pa_cons (pv 0) pa_nil)))
      (pss_cons (ps_for PassesOwn.never rfl (pi_list (pe_cal c_rounds_of (hr.mono (by decide)) (by rfl) (pa_cons (pv 0) pa_nil))) (pg_name (i := 3) nd rfl (Or.inl rfl))
        (pss_one (ps_for PassesOwn.never rfl (pi_enum (by rfl) B.n_enumerate (pa_cons (pv 3) pa_nil)) (pg_tup rfl (pgs_cons (pg_name (i := 4) nd rfl (Or.inl rfl)) (pgs_cons (pg_name (i := 5) nd rfl (Or.inl rfl)) pgs_nil)))
          (pss_one (ps_asg (pe_ix (r := rIxL K) ix_list (pv 3) (pe_op op_mod (pe_op op_add (pv 4) (pv 1)) (pe_callB (r := Evl.rLenS K) call_len_seq (by rfl) B.n_len (by decide +kernel) (pa_cons (pv 3) pa_nil))) (fun _ _ => rfl)) (pg_sub (pv 2) (pv 5) set_list))))))
      (pss_one (ps_ret (pv 2)))))
      , ?_⟩
    refine q_asgL (el_list (ev_var rfl) (sq_of ha)) fun c H1 nc e1 h1 => ?_
    refine q_forLL (lots := rounds ms) (ell_call (vs := [.ref a]) (ea_cons (ev_var rfl) ea_nil) fun H2 e2 Q E q => ⟨a, ms, rfl, (e1.trans e2) _ _ ha, hl, hp, q⟩) fun p rs H2 np nr e2 hp2 hr2 => ?_
    have hcp : c ≠ p := ne_of_none h1 np
    have hcr : c ∉ rs := fun hm => by
      rw [nr c hm] at h1
      cases h1
    refine q_forW (n := rs.length) (ei_list ev_c hp2) (by
        have w := walk_lst (K := K) (a := p) (xs := rs.map V.ref)
        rw [List.length_map] at w
        exact w) (fun i σ' H' => ∃ y3 y4 y5, σ' = [some (.ref a), some (.int (t : Int)), some (.ref c), y3, y4, y5] ∧ Ex H H' ∧ H' p = some (.lst (rs.map V.ref)) ∧ Held H' rs (rounds ms) ∧ H' c = some (.lst (iv (((rounds ms).take i).foldl (oftenLot t) ms))))
      (fun H3 e3 _ => ⟨_, _, _, rfl, (e1.trans e2).trans e3, e3 _ _ hp2, hr2.mono e3, e3 _ _ (e2 _ _ h1)⟩) (fun i σ' H' _ hW => ?_) (fun i x σ' H3 H4 hi hW hy => ?_) (fun σ' H' hW => ?_)
    · obtain ⟨_, _, _, rfl, e, hp3, hr3, hc3⟩ := hW
      exact hp3
    · obtain ⟨y3, y4, y5, rfl, e, hp3, hr3, hc3⟩ := hW
      obtain ⟨rfl, hx⟩ := hy
      obtain ⟨r, hr⟩ : ∃ r, rs[i]? = some r := ⟨_, List.getElem?_eq_getElem hi⟩
      rw [List.getElem?_map, hr] at hx
      cases (show V.ref r = x from Option.some.inj hx)
      obtain ⟨lot, hl1, hl2⟩ := hr3.at hr
      have hlm := List.mem_of_getElem? hl1
      refine s_forW (n := (iv lot).length) (ei_enum (ev_var rfl) hl2) walk_enl (fun j σ' H' => ∃ y4 y5, σ' = [some (.ref a), some (.int (t : Int)), some (.ref c), some (.ref r), y4, y5] ∧ Ex H H' ∧ H' p = some (.lst (rs.map V.ref)) ∧ Held H' rs (rounds ms) ∧ H' r = some (.lst (iv lot)) ∧ H' c = some (.lst (iv (oftenLotN t lot (((rounds ms).take i).foldl (oftenLot t) ms) j))))
        (fun H5 e5 _ => ⟨_, _, rfl, e.trans e5, e5 _ _ hp3, hr3.mono e5, e5 _ _ hl2, e5 _ _ hc3⟩) (fun j σ' H' _ hW => ?_) (fun j x σ' H5 H6 hj hW hy => ?_) (fun σ' H' hW => ?_)
      · obtain ⟨_, _, rfl, _, _, _, h, _⟩ := hW
        exact h
      · obtain ⟨z4, z5, rfl, e5, hp5, hr5, hl5, hc5⟩ := hW
        obtain ⟨T, v1, v2, rfl, nT, rfl, f1, f2⟩ := hy
        obtain ⟨m, hm, rfl⟩ := iv_at f2
        cases (show V.int (j : Nat) = v1 from Option.some.inj f1)
        have e6 : Ex H5 (upd H5 T (.tup [.int (j : Nat), .int (m : Int)])) := Ex.new nT
        refine ⟨T, [.int (j : Nat), .int (m : Int)], rfl, .inl (.inl upd_same), rfl, .int (j : Nat), [.int (m : Int)], rfl, .int (m : Int), [], rfl, rfl, ?_⟩
        have hml : m < ms.length := R.lt lot hlm m (List.mem_of_getElem? hm)
        rw [iv_len] at hj
        have hk : (j + t) % lot.length < lot.length := Nat.mod_lt _ (by omega)
        have hk2 : lot[(j + t) % lot.length]? = some (lot.getD ((j + t) % lot.length) 0) := by
          rw [List.getD_eq_getElem?_getD, List.getElem?_eq_getElem hk]
          rfl
        refine s_setL (j := m) (e6 _ _ hc5) (ev_ixL (i := (j + t) % lot.length) (ev_var rfl) (ev_mod (ev_add (ev_var rfl) (ev_var rfl) rfl) (ev_int (ev_lenL (ev_var rfl) (e6 _ _ hl5)) (by rw [iv_len])) (by omega) ?_) (e6 _ _ hl5) (iv_get hk2)) (ev_var rfl) (ev_var rfl) ?_ fun H7 e7 => ⟨_, _, rfl, Ex.mut ((e5.trans e6).trans e7) nc, ?_, ?_, ?_, ?_⟩
        · rw [← Int.natCast_add, ← Int.natCast_emod]
        · rw [iv_len, oftenLotN_len, often_len]
          exact hml
        · rw [upd_ne (Ne.symm hcp)]
          exact (e6.trans e7) _ _ hp5
        · refine (hr5.mono (e6.trans e7)).ex fun q hq o ho => ?_
          rw [upd_ne (show q ≠ c from fun z => hcr (by rw [← z]; exact hq))]
          exact ho
        · rw [upd_ne (show r ≠ c from fun z => hcr (by rw [← z]; exact List.mem_of_getElem? hr))]
          exact (e6.trans e7) _ _ hl5
        · rw [upd_same]
          show _ = some (HO.lst (iv ((oftenLotN t lot _ j).set (lot.getD j 0) (lot.getD ((j + t) % lot.length) 0))))
          rw [iv_set, List.getD_eq_getElem?_getD (l := lot) (i := j), hm]
          rfl
      · obtain ⟨z4, z5, rfl, e5, hp5, hr5, hl5, hc5⟩ := hW
        refine ⟨_, _, _, rfl, e5, hp5, hr5, ?_⟩
        rw [hc5, take_snoc hl1, List.foldl_append, iv_len]
        rfl
    · obtain ⟨y3, y4, y5, rfl, e, hp3, hr3, hc3⟩ := hW
      refine s_ret (ev_var rfl) fun H3 e3 => q c H3 nc (e.trans e3) ?_
      rw [e3 _ _ hc3, hr3.len, List.take_length]
      rfl
theorem ok_order_of (D : Dfn K mg "order_of" s_order_of p_order_of) (B : Bt mg) (c_check_size : Cal P w K mg base "check_size" p_check_size 4 sp_check_size) (c_check_program : Cal P w K mg base "check_program" p_check_program 4 (sp_prog .non)) (c_moved_by : Cal P w K mg base "moved_by" p_moved_by 1 sp_moved_by)
    (c_rounds_of : Cal P w K mg base "rounds_of" p_rounds_of 1 sp_rounds_of) (c_common_times : Cal P w K mg base "common_times" p_common_times 1 sp_common_times) : Cal P w K mg base "order_of" p_order_of 5 sp_order_of := by
  refine D.cal sc_order_of (fun vs H Q E h => ?_) (fun f cdv A outer s H vs Q E hr h => ?_)
  · obtain ⟨n, a, ps, rfl, _⟩ := h
    rfl
  · obtain ⟨n, a, ps, rfl, ha, hn, hl, hp, q⟩ := h
    have nd := sc_order_of.nd
    have hml : (mvs n ps).length = n := mvs_len hp
    have R := rounds_ok (mvs_ok hp)
    refine ⟨_, (pss_cons (ps_expr (pe_cal c_check_size (hr.mono (by decide)) (by rfl) (pa_cons (pv 0) pa_nil)))
      (pss_cons (ps_expr (pe_cal c_check_program (hr.mono (by decide)) (by rfl) (pa_cons (pv 0) (pa_cons (pv 1) pa_nil))))
      (pss_one (ps_ret (pe_cal c_common_times (hr.mono (by decide)) (by rfl) (pa_cons (pe_lc (own := [("lot", 2)]) (g := gName 2) (tt := tYes) rfl nd (pi_list (pe_cal c_rounds_of (hr.mono (by decide)) (by rfl) (pa_cons (pe_cal c_moved_by (hr.mono (by decide)) (by rfl) (pa_cons (pv 0) (pa_cons (pv 1) pa_nil))) pa_nil))) (blkOk_by (own := [("lot", 2)]) (N := N_order_of) (sc := defScope s_order_of) (by decide +kernel)) (fun _ _ _ _ _ => (pg_name (i := 2) nd rfl (Or.inl rfl))) (fun _ _ _ _ _ => pts_nil) (fun _ _ _ _ _ => (pe_callB (r := Evl.rLenS K) call_len_seq (by rfl) B.n_len (by decide +kernel) (pa_cons (pv 2) pa_nil)))) pa_nil))))))
      , ?_⟩
    refine q_drop (ev_call (vs := [.int (n : Int)]) (ea_cons (ev_var rfl) ea_nil) (SpV.of fun H1 _ Q E q => ⟨n, rfl, hn, q⟩)) fun H1 e1 => ?_
    refine q_drop (ev_call (vs := [.int (n : Int), .ref a]) (ea_cons (ev_var rfl) (ea_cons (ev_var rfl) ea_nil)) (SpV.of fun H2 e2 Q E q => ⟨n, a, ps, rfl, (e1.trans e2) _ _ ha, hl, hp, q⟩)) fun H2 e2 => ?_
    have g1 : EvL (tCall sp_moved_by [] E0 (tCons (tVar 0) (tCons (tVar 1) tNil))) (start N_order_of [.int (n : Int), .ref a]) H2 (iv (mvs n ps)) := el_call (vs := [.int (n : Int), .ref a]) (ea_cons (ev_var rfl) (ea_cons (ev_var rfl) ea_nil)) (SpL.of fun H3 e3 Q E q => ⟨n, a, ps, rfl, ((e1.trans e2).trans e3) _ _ ha, hn, hp, q⟩)
    have hlen := R.few
    have g2 : EvL (tLc (iList K (tCall sp_rounds_of [] E0 (tCons (tCall sp_moved_by [] E0 (tCons (tVar 0) (tCons (tVar 1) tNil))) tNil))) (gName 2) tYes (tCB (Evl.rLenS K) (tCons (tVar 2) tNil)) [2]) (start N_order_of [.int (n : Int), .ref a]) H2 (iv ((rounds (mvs n ps)).map List.length)) :=
      el_lens (show 2 < 3 by decide) (ell_callL g1 fun p H3 e3 hx Q E q => ⟨p, mvs n ps, rfl, hx, by omega, mvs_ok hp, q⟩) (show (roundsTo (mvs n ps) (mvs n ps).length).1.length ≤ 1000 by omega)
    refine s_ret (ev_callL1 g2 fun p H3 e3 hx => SpV.of fun H4 e4 Q E q => ⟨p, _, rfl, e4 _ _ hx, fun x hx2 => ?_, q⟩) fun H3 e3 => q H3 ((e1.trans e2).trans e3)
    obtain ⟨lot, h1, rfl⟩ := List.mem_map.mp hx2
    have h3 := R.short lot h1
    exact ⟨List.length_pos_iff.mpr (R.pos lot h1), by omega⟩
end
end K74
/-! walks: parts_of, put_together, done_by_numbers, done_by_numbers_often -/
namespace K74
open PySem PySem.Spec PyProof.Rows L2 Evl
def pstep (J : List Nat) (st : List Nat × List (List Nat) × List Nat) (c : Nat) : List Nat × List (List Nat) × List Nat :=
  if c ∈ J then (st.1 ++ [c], st.2.1 ++ [st.2.2], []) else (st.1, st.2.1, st.2.2 ++ [c])
def partsSt (J w : List Nat) : List Nat × List (List Nat) × List Nat := w.foldl (pstep J) ([], [], [])
def found (J w : List Nat) : List Nat := (partsSt J w).1
def pieces (J w : List Nat) : List (List Nat) := (partsSt J w).2.1 ++ [(partsSt J w).2.2]
def putN (f : List Nat) (ps : List (List Nat)) (ms : List Nat) (t : Nat) : Nat → List Nat
  | 0 => ps.getD (t % ps.length) []
  | i + 1 => putN f ps ms t i ++ [f.getD (ms.getD i 0) 0] ++ ps.getD ((i + 1 + t) % ps.length) []
def put (f : List Nat) (ps : List (List Nat)) (ms : List Nat) (t : Nat) : List Nat := putN f ps ms t ms.length
theorem partsSt_snoc (J w : List Nat) (c : Nat) : partsSt J (w ++ [c]) = pstep J (partsSt J w) c := by
  unfold partsSt
  rw [List.foldl_append]
  rfl
theorem getD_len {ps : List (List Nat)} {m : Nat} (h : ∀ p ∈ ps, p.length ≤ m) (i : Nat) : (ps.getD i []).length ≤ m := by
  rw [List.getD_eq_getElem?_getD]
  cases e : ps[i]? with
  | none => exact Nat.zero_le _
  | some p => exact h p (List.mem_of_getElem? e)
theorem putN_len {f : List Nat} {ps : List (List Nat)} {ms : List Nat} {t : Nat} (h : ∀ p ∈ ps, p.length ≤ 1000) : ∀ i, (putN f ps ms t i).length ≤ 1000 + i * 1001
  | 0 => by
    have := getD_len h (t % ps.length)
    show (ps.getD (t % ps.length) []).length ≤ _
    omega
  | i + 1 => by
    have h1 := putN_len (f := f) (ms := ms) (t := t) h i
    have h2 := getD_len h ((i + 1 + t) % ps.length)
    show (putN f ps ms t i ++ [f.getD (ms.getD i 0) 0] ++ ps.getD ((i + 1 + t) % ps.length) []).length ≤ _
    rw [List.length_append, List.length_append, List.length_singleton]
    omega
theorem parts_len (J : List Nat) : ∀ (w : List Nat), (partsSt J w).1.length = (partsSt J w).2.1.length ∧ (partsSt J w).1.length ≤ w.length ∧ (∀ p ∈ pieces J w, p.length ≤ w.length) := fun w => by
  suffices h : ∀ (n : Nat) (w : List Nat), w.length = n → (partsSt J w).1.length = (partsSt J w).2.1.length ∧ (partsSt J w).1.length ≤ w.length ∧ (∀ p ∈ (partsSt J w).2.1 ++ [(partsSt J w).2.2], p.length ≤ w.length) from h w.length w rfl
  intro n
  induction n with
  | zero =>
    intro w hw
    rw [List.length_eq_zero_iff.mp hw]
    refine ⟨rfl, Nat.le_refl _, fun p hp => ?_⟩
    rw [List.mem_singleton.mp hp]
    exact Nat.le_refl _
  | succ n ih =>
    intro w hw
    obtain ⟨v, c, rfl⟩ : ∃ v c, w = v ++ [c] := by
      have hne : w ≠ [] := fun z => by
        rw [z] at hw
        cases hw
      exact ⟨w.dropLast, w.getLast hne, (List.dropLast_concat_getLast hne).symm⟩
    rw [List.length_append, List.length_singleton] at hw
    obtain ⟨h1, h2, h3⟩ := ih v (by omega)
    rw [partsSt_snoc]
    unfold pstep
    by_cases h : c ∈ J
    · rw [if_pos h]
      refine ⟨by simp [h1], by simp; omega, fun p hp => ?_⟩
      rw [List.length_append]
      rcases List.mem_append.mp hp with z | z
      · have := h3 p z
        omega
      · rw [List.mem_singleton.mp z]
        exact Nat.zero_le _
    · rw [if_neg h]
      refine ⟨h1, by simp; omega, fun p hp => ?_⟩
      rw [List.length_append, List.length_singleton]
      rcases List.mem_append.mp hp with z | z
      · have := h3 p (List.mem_append.mpr (.inl z))
        omega
      · have := h3 _ (List.mem_append.mpr (.inr (List.mem_singleton.mpr rfl)))
        rw [List.mem_singleton.mp z]
        show ((partsSt J v).2.2 ++ [c]).length ≤ _
        rw [List.length_append, List.length_singleton]
        omega
theorem pieces_len (J w : List Nat) : (pieces J w).length = (found J w).length + 1 := by
  unfold pieces found
  rw [List.length_append, (parts_len J w).1]
  rfl
theorem oftenLotN_lt {n t : Nat} {lot acc : List Nat} (hl : ∀ x ∈ lot, x < n) (hne : lot ≠ []) (ha : ∀ x ∈ acc, x < n) : ∀ i, ∀ x ∈ oftenLotN t lot acc i, x < n
  | 0 => ha
  | i + 1 => fun x hx => by
    have hx : x ∈ (oftenLotN t lot acc i).set (lot.getD i 0) (lot.getD ((i + t) % lot.length) 0) := hx
    rcases List.mem_or_eq_of_mem_set hx with z | z
    · exact oftenLotN_lt hl hne ha i x z
    · have hk : (i + t) % lot.length < lot.length := Nat.mod_lt _ (List.length_pos_iff.mpr hne)
      rw [z, List.getD_eq_getElem?_getD, List.getElem?_eq_getElem hk]
      exact hl _ (List.getElem_mem hk)
theorem often_lt {t : Nat} {ms : List Nat} (hp : ∀ p ∈ ms, p < ms.length) : ∀ x ∈ often ms t, x < ms.length := by
  have R := rounds_ok hp
  have h : ∀ (lots : List (List Nat)) (acc : List Nat), (∀ lot ∈ lots, lot ≠ [] ∧ ∀ x ∈ lot, x < ms.length) → (∀ x ∈ acc, x < ms.length) → ∀ x ∈ lots.foldl (oftenLot t) acc, x < ms.length := by
    intro lots
    induction lots with
    | nil => exact fun acc _ h => h
    | cons lot lots ih =>
      intro acc h1 h2
      rw [List.foldl_cons]
      obtain ⟨a, b⟩ := h1 lot (List.mem_cons_self ..)
      exact ih _ (fun l hl => h1 l (List.mem_cons_of_mem _ hl)) (oftenLotN_lt b a h2 _)
  exact h _ _ (fun lot hl => ⟨R.pos lot hl, R.lt lot hl⟩) hp
theorem turn_le {n : Nat} : ∀ {ps : List Nat}, (∀ p ∈ ps, p < n) → turn ps ≤ ps.length * n
  | [], _ => Nat.le_of_eq (by simp [turn])
  | p :: ps, h => by
    have h1 := turn_le (n := n) (ps := ps) fun q hq => h q (List.mem_cons_of_mem _ hq)
    have h2 := h p (List.mem_cons_self ..)
    show ((p + 1) :: ps.map (· + 1)).sum ≤ (ps.length + 1) * n
    rw [List.sum_cons, Nat.succ_mul]
    show p + 1 + turn ps ≤ _
    omega
def sp_parts_of : Sp := fun vs H Q _ => ∃ w J : List Nat, vs = [sv w, sv J] ∧ w.length ≤ 1000 ∧ ∀ T pl H2, H T = none → H pl = none → Ex H H2 → H2 T = some (.tup [sv (found J w), .ref pl]) → H2 pl = some (.lst (svs (pieces J w))) → Q (.ref T) H2
def sp_put_together : Sp := fun vs H Q _ => ∃ (f : List Nat) (b : Addr) (ps : List (List Nat)) (a : Addr) (ms : List Nat) (t : Nat), vs = [sv f, .ref b, .ref a, .int (t : Int)] ∧ H b = some (.lst (svs ps)) ∧ H a = some (.lst (iv ms)) ∧ ps ≠ [] ∧ (∀ p ∈ ps, p.length ≤ 1000) ∧ ms.length ≤ 60 ∧ f.length ≤ 1000 ∧ (∀ m ∈ ms, m < f.length) ∧ RetV (sv (put f ps ms t)) H Q
def sp_done : Sp := fun vs H Q _ => ∃ (w J : List Nat) (a : Addr) (ns : List Nat), vs = [sv w, sv J, .ref a] ∧ H a = some (.lst (iv ns)) ∧ Low w ∧ w.length ≤ 1000 ∧ Low J ∧ Rise J ∧ J.length ≤ 1000 ∧ (found J w).length ≤ 60 ∧ ns.length ≤ 10000 ∧ (∀ p ∈ ns, p < (found J w).length) ∧
  RetV (sv (put (found J w) (pieces J w) (mvs (found J w).length ns) (turn ns))) H Q
def sp_done_often : Sp := fun vs H Q _ => ∃ (w J : List Nat) (a : Addr) (ns : List Nat) (t : Nat), vs = [sv w, sv J, .ref a, .int (t : Int)] ∧ H a = some (.lst (iv ns)) ∧ Low w ∧ w.length ≤ 1000 ∧ Low J ∧ Rise J ∧ J.length ≤ 1000 ∧ (found J w).length ≤ 60 ∧ ns.length ≤ 10000 ∧ (∀ p ∈ ns, p < (found J w).length) ∧
  RetV (sv (put (found J w) (pieces J w) (often (mvs (found J w).length ns) t) (turn ns * t))) H Q
section
variable {K : PySem.W.Frag} {σ : L2.St} {H H' : Hp} {ta tb te tx t1 t2 t3 t4 : TE} {x y z v x1 x2 x4 : V} {D : Ends} {tu tz : TS}
theorem s_setLast {l : Addr} {xs : List V} (hl : H l = some (.lst (xs ++ [x]))) (h : Ev te σ H v) (ho : Ev ta σ H (.ref l)) (hi : Ev tb σ H (.int (-1))) (k : ∀ H1, Ex H H1 → D.nx σ (upd H1 l (.lst (xs ++ [v])))) :
    tAsg te (gSub ta tb rSetL) D σ H := h H (Ex.refl H) _ fun H1 e1 => ho H1 e1 _ fun H2 e2 => hi H2 (e1.trans e2) _ fun H3 e3 =>
  ⟨l, xs ++ [x], -1, xs.length, rfl, rfl, ((e1.trans e2).trans e3) l _ hl, by
    unfold ixN
    simp
    omega, by
    have e : (xs ++ [x]).set xs.length v = xs ++ [v] := by simp
    rw [e]
    exact k H3 ((e1.trans e2).trans e3)⟩
theorem q_parts {E : XK} {i j : Nat} {w J : List Nat} (h1 : Ev ta σ H (sv w)) (h2 : Ev tb σ H (sv J)) (hz : w.length ≤ 1000) (k : ∀ pl H1, H pl = none → Ex H H1 → H1 pl = some (.lst (svs (pieces J w))) → tz D ((σ.set i (some (sv (found J w)))).set j (some (.ref pl))) H1) :
    tSeq (tAsg (tCall sp_parts_of [] E (tCons ta (tCons tb tNil))) (gTup K 2 (gCons (gName i) (gCons (gName j) gNil)))) tz D σ H :=
  h1 H (Ex.refl H) _ fun H1 e1 => h2 H1 e1 _ fun H2 e2 => ⟨w, J, rfl, hz, fun T c H3 nT nc e3 hT hc => ⟨T, _, rfl, .inl (.inl hT), rfl, _, _, rfl, _, _, rfl, rfl, k c H3 (fresh_back (e1.trans e2) nc) ((e1.trans e2).trans e3) hc⟩⟩
theorem el_callLv {sp : Sp} {E : XK} {xs ys : List V} (h1 : EvL t1 σ H xs) (h2 : Ev t2 σ H x2) (hs : ∀ p H1, Ex H H1 → H1 p = some (.lst xs) → SpL sp [.ref p, x2] H1 ys) : EvL (tCall sp [] E (tCons t1 (tCons t2 tNil))) σ H ys := fun H1 e Q k =>
  h1 H1 e _ fun p H2 _ e2 hx => h2 H2 (e.trans e2) _ fun H3 e3 => hs p H3 ((e.trans e2).trans e3) (e3 _ _ hx) H3 (Ex.refl H3) Q (fun c H4 nc e4 hc => k c H4 (fresh_back (e2.trans e3) nc) ((e2.trans e3).trans e4) hc) E
theorem ev_call4 {sp : Sp} {E : XK} {xs : List V} (h1 : Ev t1 σ H x1) (h2 : Ev t2 σ H x2) (h3 : EvL t3 σ H xs) (h4 : Ev t4 σ H x4) (hs : ∀ p H1, Ex H H1 → H1 p = some (.lst xs) → SpV sp [x1, x2, .ref p, x4] H1 z) : Ev (tCall sp [] E (tCons t1 (tCons t2 (tCons t3 (tCons t4 tNil))))) σ H z := fun H1 e Q k =>
  h1 H1 e _ fun H2 e2 => h2 H2 (e.trans e2) _ fun H3 e3 => h3 H3 ((e.trans e2).trans e3) _ fun p H4 _ e4 hx => h4 H4 (((e.trans e2).trans e3).trans e4) _ fun H5 e5 =>
    hs p H5 ((((e.trans e2).trans e3).trans e4).trans e5) (e5 _ _ hx) H5 (Ex.refl H5) Q (fun H6 e6 => k H6 ((((e2.trans e3).trans e4).trans e5).trans e6)) E
end
section
variable {P : Program} {w : World} {K : PySem.W.Frag} {mg : Str → Option Value} {base : Heap}
theorem ok_parts_of (D : Dfn K mg "parts_of" s_parts_of p_parts_of) (B : Bt mg) : Cal P w K mg base "parts_of" p_parts_of 1 sp_parts_of := by
  refine D.cal sc_parts_of (fun vs H Q E h => ?_) (fun f cdv A outer s H vs Q E hr h => ?_)
  · obtain ⟨w, J, rfl, _⟩ := h
    rfl
  · obtain ⟨w, J, rfl, hz, q⟩ := h
    have nd := sc_parts_of.nd
    refine ⟨_, (pss_cons (ps_par (by rfl) nd (i := 2) (j := 3) rfl rfl (by decide) rfl rfl (pa_cons pe_str (pa_cons (pe_lst (pa_cons pe_str pa_nil)) pa_nil)) (by rfl))
      (pss_cons (ps_for PassesOwn.never rfl (pi_str (pv 0)) (pg_name (i := 4) nd rfl (Or.inl rfl))
        (pss_one (ps_if (pt_cmpR op_inT (pv 4) (pv 1) rfl)
          (pss_cons (ps_set (i := 2) nd rfl (Or.inl rfl) (pe_op op_addT (pv 2) (pv 4)))
          (pss_one (ps_expr (pe_bm PySem.F.plainAttrs_list PySem.F.slot_list_append PySem.F.type_list_append mt_append (pv 3) (pa_cons pe_str pa_nil)))))
          (pss_one (ps_asg (pe_op op_addT (pe_ix (r := rIxL K) ix_list (pv 3) (pe_un un_neg pe_int) (fun _ _ => rfl)) (pv 4)) (pg_sub (pv 3) (pe_un un_neg pe_int) set_list))))))
      (pss_one (ps_ret (pe_tup (pa_cons (pv 2) (pa_cons (pv 3) pa_nil)))))))
      , ?_⟩
    refine q_parL (v := sv []) (xs := svs [[]]) ev_c (el_one ev_c) fun c H1 nc e1 h1 => ?_
    refine q_forW (ei_str (ev_var rfl)) (walk_T w) (fun i σ' H' => ∃ y, σ' = [some (sv w), some (sv J), some (sv (found J (w.take i))), some (.ref c), y] ∧ Ex H H' ∧ H' c = some (.lst (svs (pieces J (w.take i))))) (fun H2 e2 _ => ⟨_, rfl, e1.trans e2, e2 _ _ h1⟩) (fun _ _ _ _ _ => trivial) (fun i x σ' H2 H3 hi hW hy => ?_) (fun σ' H' hW => ?_)
    · obtain ⟨y, rfl, e, hc⟩ := hW
      obtain ⟨rfl, x, hx, rfl⟩ := hy
      have hs := partsSt_snoc J (w.take i) x
      rw [← take_snoc hx] at hs
      have L := parts_len J (w.take i)
      have hlt : (w.take i).length ≤ 1000 := by
        rw [List.length_take]
        omega
      have hil : i < w.length := hi
      refine s_if (b := decide (x ∈ J)) (et_test (ev_inT (ev_var rfl) (ev_var rfl))) (fun hb H4 e4 => ?_) (fun hb H4 e4 => ?_)
      · have hin : x ∈ J := of_decide_eq_true hb
        unfold pstep at hs
        rw [if_pos hin] at hs
        have e5 : found J (w.take (i + 1)) = found J (w.take i) ++ [x] := by
          unfold found
          rw [hs]
        have e6 : pieces J (w.take (i + 1)) = pieces J (w.take i) ++ [[]] := by
          unfold pieces
          rw [hs]
        rw [e5, e6]
        refine q_asg (ev_addT (ev_var rfl) (ev_var rfl) ?_) fun H5 e5 => ?_
        · have : (found J (w.take i)).length ≤ (w.take i).length := L.2.1
          show (found J (w.take i)).length + 1 ≤ 100000
          omega
        · refine s_app ((e4.trans e5) _ _ hc) (ev_var rfl) (v := sv []) ev_c ?_ fun H6 e6 => ⟨_, rfl, Ex.mut (((e.trans e4).trans e5).trans e6) nc, ?_⟩
          · rw [svs_len, pieces_len]
            have : (found J (w.take i)).length ≤ (w.take i).length := L.2.1
            omega
          · rw [upd_same, svs_app]
            rfl
      · have hin : x ∉ J := fun z => by
          rw [decide_eq_true z] at hb
          cases hb
        unfold pstep at hs
        rw [if_neg hin] at hs
        have e5 : found J (w.take (i + 1)) = found J (w.take i) := by
          unfold found
          rw [hs]
        have e6 : pieces J (w.take (i + 1)) = (partsSt J (w.take i)).2.1 ++ [(partsSt J (w.take i)).2.2 ++ [x]] := by
          unfold pieces
          rw [hs]
        rw [e5, e6]
        have hc4 := e4 _ _ hc
        unfold pieces at hc4
        rw [svs_app] at hc4
        have hlast := L.2.2 (partsSt J (w.take i)).2.2 (List.mem_append.mpr (.inr (List.mem_singleton.mpr rfl)))
        refine s_setLast (v := sv ((partsSt J (w.take i)).2.2 ++ [x])) hc4 (ev_addT (ev_op (ev_var rfl) (ev_un ev_c ru_neg) (rv_ixL (sq_of hc4) (atI_last _ _))) (ev_var rfl) ?_) (ev_var rfl) (ev_un ev_c ru_neg) fun H6 e6 => ⟨_, rfl, Ex.mut ((e.trans e4).trans e6) nc, ?_⟩
        · show _ + 1 ≤ 100000
          omega
        · rw [upd_same, svs_app]
          rfl
    · obtain ⟨y, rfl, e, hc⟩ := hW
      rw [List.take_length] at hc ⊢
      exact s_retU (eu_tup (ea_cons (ev_var rfl) (ea_cons (ev_var rfl) ea_nil)) (by simp)) fun T H2 nT e2 hT => q T c H2 (fresh_back e nT) nc (e.trans e2) hT (e2 _ _ hc)
theorem ok_put_together (D : Dfn K mg "put_together" s_put_together p_put_together) (B : Bt mg) : Cal P w K mg base "put_together" p_put_together 1 sp_put_together := by
  refine D.cal sc_put_together (fun vs H Q E h => ?_) (fun f cdv A outer s H vs Q E hr h => ?_)
  · obtain ⟨f, b, ps, a, ms, t, rfl, _⟩ := h
    rfl
  · obtain ⟨f, b, ps, a, ms, t, rfl, hb, ha, hne, hps, hms, hf, hmf, q⟩ := h
    have nd := sc_put_together.nd
    have hpl : 0 < ps.length := List.length_pos_iff.mpr hne
    have hget : ∀ k : Nat, ps[k % ps.length]? = some (ps.getD (k % ps.length) []) := fun k => by
      rw [List.getD_eq_getElem?_getD, List.getElem?_eq_getElem (Nat.mod_lt _ hpl)]
      rfl
    refine ⟨_, (pss_cons (ps_set (i := 4) nd rfl (Or.inl rfl) (pe_ix (r := rIxL K) ix_list (pv 1) (pe_op op_mod (pv 3) (pe_callB (r := Evl.rLenS K) call_len_seq (by rfl) B.n_len (by decide +kernel) (pa_cons (pv 1) pa_nil))) (fun _ _ => rfl)))
      (pss_cons (ps_for PassesOwn.never rfl (pi_enum (by rfl) B.n_enumerate (pa_cons (pv 2) pa_nil)) (pg_tup rfl (pgs_cons (pg_name (i := 5) nd rfl (Or.inl rfl)) (pgs_cons (pg_name (i := 6) nd rfl (Or.inl rfl)) pgs_nil)))
        (pss_one (ps_set (i := 4) nd rfl (Or.inl rfl) (pe_op op_addT (pe_op op_addT (pv 4) (pe_ix (r := rIxT) ix_T (pv 0) (pv 6) (fun _ _ => rfl))) (pe_ix (r := rIxL K) ix_list (pv 1) (pe_op op_mod (pe_op op_add (pe_op op_add (pv 5) pe_int) (pv 3)) (pe_callB (r := Evl.rLenS K) call_len_seq (by rfl) B.n_len (by decide +kernel) (pa_cons (pv 1) pa_nil))) (fun _ _ => rfl))))))
      (pss_one (ps_ret (pv 4)))))
      , ?_⟩
    refine q_asg (ev_ixL (i := t % ps.length) (ev_var rfl) (ev_mod (ev_var rfl) (ev_int (ev_lenL (ev_var rfl) hb) (by rw [svs_len])) (by omega) (Int.natCast_emod _ _).symm) hb (svs_get (hget t))) fun H1 e1 => ?_
    refine q_forW (n := (iv ms).length) (ei_enum (ev_var rfl) (e1 _ _ ha)) walk_enl (fun i σ' H' => ∃ y z, σ' = [some (sv f), some (.ref b), some (.ref a), some (.int (t : Int)), some (sv (putN f ps ms t i)), y, z] ∧ Ex H H') (fun H2 e2 _ => ⟨_, _, rfl, e1.trans e2⟩) (fun i σ' H' _ hW => ?_) (fun i x σ' H2 H3 hi hW hy => ?_) (fun σ' H' hW => ?_)
    · obtain ⟨y, z, rfl, e⟩ := hW
      exact e a _ ha
    · obtain ⟨y, z, rfl, e⟩ := hW
      obtain ⟨T, v1, v2, rfl, nT, rfl, f1, f2⟩ := hy
      obtain ⟨j, hj, rfl⟩ := iv_at f2
      cases (show V.int (i : Nat) = v1 from Option.some.inj f1)
      have e3 : Ex H (upd H2 T (.tup [.int (i : Nat), .int (j : Int)])) := e.trans (Ex.new nT)
      refine ⟨T, [.int (i : Nat), .int (j : Int)], rfl, .inl (.inl upd_same), rfl, .int (i : Nat), [.int (j : Int)], rfl, .int (j : Int), [], rfl, rfl, ?_⟩
      have hjf := hmf j (List.mem_of_getElem? hj)
      have hfj : f[j]? = some (f.getD j 0) := by
        rw [List.getD_eq_getElem?_getD, List.getElem?_eq_getElem hjf]
        rfl
      have hmj : ms.getD i 0 = j := by
        rw [List.getD_eq_getElem?_getD, hj]
        rfl
      rw [iv_len] at hi
      have hL := putN_len (f := f) (ms := ms) (t := t) hps i
      have hG := getD_len hps ((i + 1 + t) % ps.length)
      refine s_asg (v := sv (putN f ps ms t (i + 1))) ?_ fun H4 e4 => ⟨_, _, rfl, e3.trans e4⟩
      show Ev _ _ _ (sv (putN f ps ms t i ++ [f.getD (ms.getD i 0) 0] ++ ps.getD ((i + 1 + t) % ps.length) []))
      rw [hmj]
      refine ev_addT (ev_addT (ev_var rfl) (ev_ixT (i := j) (ev_var rfl) (ev_var rfl) hfj (by omega)) ?_) (ev_ixL (i := (i + 1 + t) % ps.length) (ev_var rfl) (ev_mod (ev_add (ev_add (ev_var rfl) ev_c rfl) (ev_var rfl) rfl) (ev_int (ev_lenL (ev_var rfl) (e3 _ _ hb)) (by rw [svs_len])) (by omega) ?_) (e3 _ _ hb) (svs_get (hget (i + 1 + t)))) ?_
      · show _ + 1 ≤ 100000
        omega
      · rw [Int.natCast_emod, Int.natCast_add, Int.natCast_add]
        rfl
      · rw [List.length_append, List.length_singleton]
        omega
    · obtain ⟨y, z, rfl, e⟩ := hW
      rw [iv_len]
      exact s_ret (ev_var rfl) fun H2 e2 => q H2 (e.trans e2)
theorem ok_done_by_numbers (D : Dfn K mg "done_by_numbers" s_done_by_numbers p_done_by_numbers) (B : Bt mg) (c_check_pair : Cal P w K mg base "check_pair" p_check_pair 4 sp_check_pair) (c_parts_of : Cal P w K mg base "parts_of" p_parts_of 1 sp_parts_of)
    (c_check_numbers : Cal P w K mg base "check_numbers" p_check_numbers 4 (sp_prog .non)) (c_put_together : Cal P w K mg base "put_together" p_put_together 1 sp_put_together) (c_moved_by : Cal P w K mg base "moved_by" p_moved_by 1 sp_moved_by) (c_turn_of : Cal P w K mg base "turn_of" p_turn_of 1 sp_turn_of) : Cal P w K mg base "done_by_numbers" p_done_by_numbers 5 sp_done := by
  refine D.cal sc_done_by_numbers (fun vs H Q E h => ?_) (fun f cdv A outer s H vs Q E hr h => ?_)
  · obtain ⟨w, J, a, ns, rfl, _⟩ := h
    rfl
  · obtain ⟨w, J, a, ns, rfl, ha, hw, hwl, hJ, hR, hJl, hf, hl, hp, q⟩ := h
    have nd := sc_done_by_numbers.nd
    have L := parts_len J w
    refine ⟨_, (pss_cons (ps_expr (pe_cal c_check_pair (hr.mono (by decide)) (by rfl) (pa_cons (pv 0) (pa_cons (pv 1) pa_nil))))
      (pss_cons (ps_asg (pe_cal c_parts_of (hr.mono (by decide)) (by rfl) (pa_cons (pv 0) (pa_cons (pv 1) pa_nil))) (pg_tup rfl (pgs_cons (pg_name (i := 3) nd rfl (Or.inl rfl)) (pgs_cons (pg_name (i := 4) nd rfl (Or.inl rfl)) pgs_nil))))
      (pss_cons (ps_expr (pe_cal c_check_numbers (hr.mono (by decide)) (by rfl) (pa_cons (pe_callB call_lenT (by rfl) B.n_len (by decide +kernel) (pa_cons (pv 3) pa_nil)) (pa_cons (pv 2) pa_nil))))
      (pss_one (ps_ret (pe_cal c_put_together (hr.mono (by decide)) (by rfl) (pa_cons (pv 3) (pa_cons (pv 4) (pa_cons (pe_cal c_moved_by (hr.mono (by decide)) (by rfl) (pa_cons (pe_callB call_lenT (by rfl) B.n_len (by decide +kernel) (pa_cons (pv 3) pa_nil)) (pa_cons (pv 2) pa_nil))) (pa_cons (pe_cal c_turn_of (hr.mono (by decide)) (by rfl) (pa_cons (pv 2) pa_nil)) pa_nil))))))))))
      , ?_⟩
    refine q_drop (ev_call (vs := [sv w, sv J]) (ea_cons (ev_var rfl) (ea_cons (ev_var rfl) ea_nil)) (SpV.of fun H1 _ Q E q => ⟨w, J, rfl, hw, hwl, hJ, hR, hJl, q⟩)) fun H1 e1 => ?_
    refine q_parts (w := w) (J := J) (ev_var rfl) (ev_var rfl) hwl fun c H4 nc e4 hc => ?_
    have e5 : Ex H H4 := e1.trans e4
    have t0 : ∀ H5, Ev (tCB rLenT (tCons (tVar 3) tNil)) [some (sv w), some (sv J), some (.ref a), some (sv (found J w)), some (.ref c)] H5 (.int ((found J w).length : Int)) := fun H5 => ev_lenT (ev_var rfl) (by omega)
    refine q_drop (ev_call (vs := [.int ((found J w).length : Int), .ref a]) (ea_cons (t0 H4) (ea_cons (ev_var rfl) ea_nil)) (SpV.of fun H5 e6 Q E q => ⟨_, a, ns, rfl, (e5.trans e6) _ _ ha, hl, hp, q⟩)) fun H5 e6 => ?_
    have hc5 := e6 _ _ hc
    have hM : (mvs (found J w).length ns).length = (found J w).length := mvs_len hp
    refine s_ret (ev_call4 (ev_var rfl) (ev_var rfl) (el_call (vs := [.int ((found J w).length : Int), .ref a]) (ea_cons (t0 H5) (ea_cons (ev_var rfl) ea_nil)) (SpL.of fun H6 e7 Q E q => ⟨_, a, ns, rfl, ((e5.trans e6).trans e7) _ _ ha, hf, hp, q⟩)) (ev_call (vs := [.ref a]) (ea_cons (ev_var rfl) ea_nil) (SpV.of fun H6 e7 Q E q => ⟨a, ns, rfl, ((e5.trans e6).trans e7) _ _ ha, hl, q⟩))
      fun p H6 e7 hx => SpV.of fun H7 e8 Q E q => ⟨found J w, c, pieces J w, p, _, turn ns, rfl, (e7.trans e8) _ _ hc5, e8 _ _ hx, ?_, ?_, ?_, ?_, ?_, q⟩) fun H6 e7 => q H6 ((e5.trans e6).trans e7)
    · unfold pieces
      simp
    · exact fun p hp => Nat.le_trans (L.2.2 p hp) hwl
    · omega
    · omega
    · have := mvs_ok hp
      rw [hM] at this
      exact this
theorem ok_done_by_numbers_often (D : Dfn K mg "done_by_numbers_often" s_done_by_numbers_often p_done_by_numbers_often) (B : Bt mg) (c_check_pair : Cal P w K mg base "check_pair" p_check_pair 4 sp_check_pair) (c_parts_of : Cal P w K mg base "parts_of" p_parts_of 1 sp_parts_of)
    (c_check_numbers : Cal P w K mg base "check_numbers" p_check_numbers 4 (sp_prog .non)) (c_check_number : Cal P w K mg base "check_number" p_check_number 3 sp_check_number) (c_often : Cal P w K mg base "often" p_often 2 sp_often) (c_put_together : Cal P w K mg base "put_together" p_put_together 1 sp_put_together)
    (c_moved_by : Cal P w K mg base "moved_by" p_moved_by 1 sp_moved_by) (c_turn_of : Cal P w K mg base "turn_of" p_turn_of 1 sp_turn_of) : Cal P w K mg base "done_by_numbers_often" p_done_by_numbers_often 5 sp_done_often := by
  refine D.cal sc_done_by_numbers_often (fun vs H Q E h => ?_) (fun f cdv A outer s H vs Q E hr h => ?_)
  · obtain ⟨w, J, a, ns, t, rfl, _⟩ := h
    rfl
  · obtain ⟨w, J, a, ns, t, rfl, ha, hw, hwl, hJ, hR, hJl, hf, hl, hp, q⟩ := h
    have nd := sc_done_by_numbers_often.nd
    have L := parts_len J w
    refine ⟨_, (pss_cons (ps_expr (pe_cal c_check_pair (hr.mono (by decide)) (by rfl) (pa_cons (pv 0) (pa_cons (pv 1) pa_nil))))
      (pss_cons (ps_asg (pe_cal c_parts_of (hr.mono (by decide)) (by rfl) (pa_cons (pv 0) (pa_cons (pv 1) pa_nil))) (pg_tup rfl (pgs_cons (pg_name (i := 4) nd rfl (Or.inl rfl)) (pgs_cons (pg_name (i := 5) nd rfl (Or.inl rfl)) pgs_nil))))
      (pss_cons (ps_expr (pe_cal c_check_numbers (hr.mono (by decide)) (by rfl) (pa_cons (pe_callB call_lenT (by rfl) B.n_len (by decide +kernel) (pa_cons (pv 4) pa_nil)) (pa_cons (pv 2) pa_nil))))
      (pss_cons (ps_expr (pe_cal c_check_number (hr.mono (by decide)) (by rfl) (pa_cons (pv 3) (pa_cons pe_int (pa_cons pe_non pa_nil)))))
      (pss_cons (ps_set (i := 6) nd rfl (Or.inl rfl) (pe_cal c_often (hr.mono (by decide)) (by rfl) (pa_cons (pe_cal c_moved_by (hr.mono (by decide)) (by rfl) (pa_cons (pe_callB call_lenT (by rfl) B.n_len (by decide +kernel) (pa_cons (pv 4) pa_nil)) (pa_cons (pv 2) pa_nil))) (pa_cons (pv 3) pa_nil))))
      (pss_one (ps_ret (pe_cal c_put_together (hr.mono (by decide)) (by rfl) (pa_cons (pv 4) (pa_cons (pv 5) (pa_cons (pv 6) (pa_cons (pe_op op_mul (pe_cal c_turn_of (hr.mono (by decide)) (by rfl) (pa_cons (pv 2) pa_nil)) (pv 3)) pa_nil))))))))))))
      , ?_⟩
    refine q_drop (ev_call (vs := [sv w, sv J]) (ea_cons (ev_var rfl) (ea_cons (ev_var rfl) ea_nil)) (SpV.of fun H1 _ Q E q => ⟨w, J, rfl, hw, hwl, hJ, hR, hJl, q⟩)) fun H1 e1 => ?_
    refine q_parts (w := w) (J := J) (ev_var rfl) (ev_var rfl) hwl fun c H4 nc e4 hc => ?_
    have e5 : Ex H H4 := e1.trans e4
    have t0 : ∀ H5, Ev (tCB rLenT (tCons (tVar 4) tNil)) [some (sv w), some (sv J), some (.ref a), some (.int (t : Int)), some (sv (found J w)), some (.ref c), none] H5 (.int ((found J w).length : Int)) := fun H5 => ev_lenT (ev_var rfl) (by omega)
    refine q_drop (ev_call (vs := [.int ((found J w).length : Int), .ref a]) (ea_cons (t0 H4) (ea_cons (ev_var rfl) ea_nil)) (SpV.of fun H5 e6 Q E q => ⟨_, a, ns, rfl, (e5.trans e6) _ _ ha, hl, hp, q⟩)) fun H5 e6 => ?_
    refine q_drop (ev_call (vs := [.int (t : Int), .int 0, .non]) (ea_cons (ev_var rfl) (ea_cons ev_c (ea_cons ev_c ea_nil))) (SpV.of fun H6 e7 Q E q => ⟨t, 0, .non, rfl, by omega, .inl rfl, q⟩)) fun H6 e7 => ?_
    have e8 : Ex H H6 := (e5.trans e6).trans e7
    have hM : (mvs (found J w).length ns).length = (found J w).length := mvs_len hp
    refine q_asgL (el_callLv (el_call (vs := [.int ((found J w).length : Int), .ref a]) (ea_cons (t0 H6) (ea_cons (ev_var rfl) ea_nil)) (SpL.of fun H7 e9 Q E q => ⟨_, a, ns, rfl, (e8.trans e9) _ _ ha, hf, hp, q⟩)) (ev_var rfl) fun p H7 e9 hx => SpL.of fun H8 e10 Q E q => ⟨p, mvs (found J w).length ns, t, rfl, e10 _ _ hx, by omega, mvs_ok hp, q⟩) fun m H7 nm e9 hm => ?_
    have hc7 := ((e6.trans e7).trans e9) _ _ hc
    have hO : (often (mvs (found J w).length ns) t).length = (found J w).length := by
      unfold often
      rw [often_len, hM]
    have hT2 := turn_le hp
    have hcm : CMul (turn ns : Int) (t : Int) := .inl ⟨by omega, by
      have : ns.length * (found J w).length ≤ 10000 * 60 := Nat.mul_le_mul hl hf
      omega⟩
    refine s_ret (ev_call (vs := [sv (found J w), .ref c, .ref m, .int ((turn ns * t : Nat) : Int)]) (ea_cons (ev_var rfl) (ea_cons (ev_var rfl) (ea_cons (ev_var rfl) (ea_cons (ev_prod (ev_call (vs := [.ref a]) (ea_cons (ev_var rfl) ea_nil) (SpV.of fun H8 e10 Q E q => ⟨a, ns, rfl, ((e8.trans e9).trans e10) _ _ ha, hl, q⟩)) (ev_var rfl) hcm (Int.natCast_mul _ _).symm) ea_nil)))) (SpV.of fun H8 e10 Q E q => ⟨found J w, c, pieces J w, m, _, turn ns * t, rfl, e10 _ _ hc7, e10 _ _ hm, ?_, ?_, ?_, ?_, ?_, q⟩)) fun H8 e10 => q H8 ((e8.trans e9).trans e10)
    · unfold pieces
      simp
    · exact fun p hp => Nat.le_trans (L.2.2 p hp) hwl
    · omega
    · omega
    · have := often_lt (t := t) (mvs_ok hp)
      rw [hM] at this
      exact this
end
end K74
/-! walks: numbers_parting, numbers_order -/
namespace K74
open PySem PySem.Spec PyProof.Rows L2 Evl
def os (o : Option (List Nat)) : V := match o with
  | none => .non
  | some l => sv l
def bodies (J : List Nat) : List Nat := cLETTERS.filter fun c => !decide (c ∈ J)
def npartB (J : List Nat) (n : Nat) (a b : List Nat) : Option (List Nat) :=
  if ((turn a : Int) - (turn b : Int)) % ((n : Int) + 1) = 0 ∨ bodies J = [] ∨ J = [] then none
  else some (lesser ((bodies J).getD 0 0 :: List.replicate n (J.getD 0 0)) (List.replicate n (J.getD 0 0) ++ [(bodies J).getD 0 0]))
def npart (J : List Nat) (n : Nat) (a b : List Nat) : Option (List Nat) :=
  match lastUn (mvs n a) (mvs n b) with
  | some p => if 1 < J.length then some (List.replicate p (J.getD 0 0) ++ [J.getD 1 0] ++ List.replicate (n - 1 - p) (J.getD 0 0)) else npartB J n a b
  | none => npartB J n a b
def turnsOf (n : Nat) (ps : List Nat) : Nat := (n + 1) / Nat.gcd (n + 1) (turn ps % (n + 1))
def norder (n : Nat) (ps : List Nat) : Nat := common ((rounds (mvs n ps)).map List.length ++ [turnsOf n ps])
theorem gcd_dvd {N s m : Nat} (hN : 0 < N) : N ∣ s * m ↔ N / Nat.gcd N s ∣ m := by
  have hg : 0 < Nat.gcd N s := Nat.gcd_pos_of_pos_left _ hN
  have hc : Nat.Coprime (N / Nat.gcd N s) (s / Nat.gcd N s) := Nat.coprime_div_gcd_div_gcd hg
  have eN : N / Nat.gcd N s * Nat.gcd N s = N := Nat.div_mul_cancel (Nat.gcd_dvd_left N s)
  have es : s / Nat.gcd N s * Nat.gcd N s = s := Nat.div_mul_cancel (Nat.gcd_dvd_right N s)
  generalize Nat.gcd N s = g at hg hc eN es
  generalize N / g = L at hc eN
  generalize s / g = r at hc es
  subst eN es
  constructor
  · intro h
    have e : r * g * m = r * m * g := by rw [Nat.mul_assoc, Nat.mul_comm g m, ← Nat.mul_assoc]
    rw [e] at h
    exact hc.dvd_of_dvd_mul_left (Nat.dvd_of_mul_dvd_mul_right hg h)
  · intro h
    have e : r * g * m = m * (r * g) := Nat.mul_comm _ _
    rw [e, ← Nat.mul_assoc]
    exact Nat.mul_dvd_mul_right (Nat.dvd_trans h (Nat.dvd_mul_right m r)) g
theorem rep_one (n c : Nat) : (List.replicate n [c]).flatten = List.replicate n c := by
  induction n with
  | zero => rfl
  | succ n ih =>
    rw [List.replicate_succ, List.flatten_cons, ih, List.replicate_succ]
    rfl
theorem lastUn_lt {a b : List Nat} {p : Nat} (h : lastUn a b = some p) : p < a.length := by
  obtain ⟨ys, e⟩ := lastAt h
  have : p ∈ unls a b := by
    rw [e]
    simp
  exact List.mem_range.mp (List.mem_filter.mp this).1
def sp_numbers_parting : Sp := fun vs H Q _ => ∃ (J : List Nat) (n : Nat) (a b : Addr) (xs ys : List Nat), vs = [sv J, .int (n : Int), .ref a, .ref b] ∧ H a = some (.lst (iv xs)) ∧ H b = some (.lst (iv ys)) ∧ Low J ∧ Rise J ∧ J.length ≤ 100 ∧ n ≤ 60 ∧ xs.length ≤ 10000 ∧ ys.length ≤ 10000 ∧ (∀ p ∈ xs, p < n) ∧ (∀ p ∈ ys, p < n) ∧ RetV (os (npart J n xs ys)) H Q
def sp_numbers_order : Sp := fun vs H Q _ => ∃ (n : Nat) (a : Addr) (ps : List Nat), vs = [.int (n : Int), .ref a] ∧ H a = some (.lst (iv ps)) ∧ n ≤ 60 ∧ ps.length ≤ 10000 ∧ (∀ p ∈ ps, p < n) ∧ RetV (.int (norder n ps : Int)) H Q
section
variable {K : PySem.W.Frag} {σ : L2.St} {H H' : Hp} {ta tb te tx t1 t2 t3 t4 : TE} {x y z v x1 x2 x4 : V} {D : Ends} {tu tz : TS}
theorem ev_minS {a b : List Nat} (h : EvL te σ H [sv a, sv b]) : Ev (tCB (rMinS K) (tCons te tNil)) σ H (sv (lesser a b)) := fun H1 e Q q => h H1 e _ fun p H2 _ e2 hp => ⟨p, a, b, rfl, sq_of hp, q H2 e2⟩
theorem q_par2 {i j : Nat} (h1 : Ev ta σ H x) (h2 : Ev tb σ H y) (k : ∀ H1, Ex H H1 → tz D ((σ.set i (some x)).set j (some y)) H1) : tSeq (tPar i j (tCons ta (tCons tb tNil))) tz D σ H :=
  h1 H (Ex.refl H) _ fun H1 e1 => h2 H1 e1 _ fun H2 e2 => ⟨_, _, rfl, k H2 (e1.trans e2)⟩
end
section
variable {P : Program} {w : World} {K : PySem.W.Frag} {mg : Str → Option Value} {base : Heap}
theorem ok_numbers_parting (D : Dfn K mg "numbers_parting" s_numbers_parting p_numbers_parting) (B : Bt mg) (c_check_joints : Cal P w K mg base "check_joints" p_check_joints 3 (sp_joints .non)) (c_check_number : Cal P w K mg base "check_number" p_check_number 3 sp_check_number)
    (c_check_numbers : Cal P w K mg base "check_numbers" p_check_numbers 4 (sp_prog .non)) (c_last_unlike : Cal P w K mg base "last_unlike" p_last_unlike 2 sp_last_unlike) (c_moved_by : Cal P w K mg base "moved_by" p_moved_by 1 sp_moved_by) (c_turn_of : Cal P w K mg base "turn_of" p_turn_of 1 sp_turn_of) : Cal P w K mg base "numbers_parting" p_numbers_parting 5 sp_numbers_parting := by
  refine D.cal sc_numbers_parting (fun vs H Q E h => ?_) (fun f cdv A outer s H vs Q E hr h => ?_)
  · obtain ⟨J, n, a, b, xs, ys, rfl, _⟩ := h
    rfl
  · obtain ⟨J, n, a, b, xs, ys, rfl, ha, hb, hJ, hR, hJl, hn, hxl, hyl, hx, hy, q⟩ := h
    have nd := sc_numbers_parting.nd
    have lx : (mvs n xs).length = n := mvs_len hx
    have ly : (mvs n ys).length = n := mvs_len hy
    refine ⟨_, (pss_cons (ps_expr (pe_cal c_check_joints (hr.mono (by decide)) (by rfl) (pa_cons (pv 0) pa_nil)))
      (pss_cons (ps_expr (pe_cal c_check_number (hr.mono (by decide)) (by rfl) (pa_cons (pv 1) (pa_cons pe_int (pa_cons (pe_gk B.gMOST_COUNT (by rfl)) pa_nil)))))
      (pss_cons (ps_expr (pe_cal c_check_numbers (hr.mono (by decide)) (by rfl) (pa_cons (pv 1) (pa_cons (pv 2) pa_nil))))
      (pss_cons (ps_expr (pe_cal c_check_numbers (hr.mono (by decide)) (by rfl) (pa_cons (pv 1) (pa_cons (pv 3) pa_nil))))
      (pss_cons (ps_set (i := 4) nd rfl (Or.inl rfl) (pe_cal c_last_unlike (hr.mono (by decide)) (by rfl) (pa_cons (pe_cal c_moved_by (hr.mono (by decide)) (by rfl) (pa_cons (pv 1) (pa_cons (pv 2) pa_nil))) (pa_cons (pe_cal c_moved_by (hr.mono (by decide)) (by rfl) (pa_cons (pv 1) (pa_cons (pv 3) pa_nil))) pa_nil))))
      (pss_cons (ps_if (PW.pt (pw_and (pt_cmpR op_notN (pv 4) pe_non (nomark _)) (pw_and1 (pt_cmpR op_gt (pe_callB call_lenT (by rfl) B.n_len (by decide +kernel) (pa_cons (pv 0) pa_nil)) pe_int (nomark _)))))
        (pss_one (ps_ret (pe_op op_addT (pe_op op_addT (pe_op op_mulS (pe_ix (r := rIxT) ix_T (pv 0) pe_int (fun _ _ => rfl)) (pv 4)) (pe_ix (r := rIxT) ix_T (pv 0) pe_int (fun _ _ => rfl))) (pe_op op_mulS (pe_ix (r := rIxT) ix_T (pv 0) pe_int (fun _ _ => rfl)) (pe_op op_sub (pe_op op_sub (pv 1) pe_int) (pv 4))))))
        pss_nil)
      (pss_cons (ps_setLc (i := 5) (own := [("letter", 6)]) (g := gName 6) rfl nd rfl rfl (sw_true rfl rfl rfl (by decide +kernel)) (pi_str (pe_gk B.gLETTERS (by rfl))) (blkOk_by (own := [("letter", 6)]) (N := N_numbers_parting) (sc := defScope s_numbers_parting) (by decide +kernel)) (fun _ _ _ _ _ => (pg_name (i := 6) nd rfl (Or.inl rfl))) (fun _ _ _ _ _ => (pts_one (pt_cmpR op_ninT (pv 6) (pv 0) rfl))) (fun _ _ _ _ _ => (pv 6)))
      (pss_cons (ps_if (PW.pt (pw_or (pt_cmpR op_eq (pe_op op_mod (pe_op op_sub (pe_cal c_turn_of (hr.mono (by decide)) (by rfl) (pa_cons (pv 2) pa_nil)) (pe_cal c_turn_of (hr.mono (by decide)) (by rfl) (pa_cons (pv 3) pa_nil))) (pe_op op_add (pv 1) pe_int)) pe_int (nomark _)) (pw_or (pt_cmpR (op_eqD (hu64 hr)) (pv 5) (pe_lst pa_nil) (nomark _)) (pw_or1 (pt_cmpR op_eq (pv 0) pe_str (nomark _))))))
        (pss_one (ps_ret pe_non))
        pss_nil)
      (pss_one (ps_ret (pe_callB (cr_minS rfl (hu64 hr)) (by rfl) B.n_min (by decide +kernel) (pa_cons (pe_lst (pa_cons (pe_op op_addT (pe_ix (r := rIxL K) ix_list (pv 5) pe_int (fun _ _ => rfl)) (pe_op op_mulS (pe_ix (r := rIxT) ix_T (pv 0) pe_int (fun _ _ => rfl)) (pv 1))) (pa_cons (pe_op op_addT (pe_op op_mulS (pe_ix (r := rIxT) ix_T (pv 0) pe_int (fun _ _ => rfl)) (pv 1)) (pe_ix (r := rIxL K) ix_list (pv 5) pe_int (fun _ _ => rfl))) pa_nil))) pa_nil))))))))))))
      , ?_⟩
    refine q_drop (ev_call (vs := [sv J]) (ea_cons (ev_var rfl) ea_nil) (SpV.of fun H1 _ Q E q => ⟨J, rfl, hJ, hR, by omega, q⟩)) fun H1 e1 => ?_
    refine q_drop (ev_call (vs := [.int (n : Int), .int 0, .int 60]) (ea_cons (ev_var rfl) (ea_cons ev_c (ea_cons ev_c ea_nil))) (SpV.of fun H2 _ Q E q => ⟨n, 0, .int 60, rfl, by omega, .inr ⟨60, rfl, by omega⟩, q⟩)) fun H2 e2 => ?_
    refine q_drop (ev_call (vs := [.int (n : Int), .ref a]) (ea_cons (ev_var rfl) (ea_cons (ev_var rfl) ea_nil)) (SpV.of fun H3 e3 Q E q => ⟨n, a, xs, rfl, ((e1.trans e2).trans e3) _ _ ha, hxl, hx, q⟩)) fun H3 e3 => ?_
    refine q_drop (ev_call (vs := [.int (n : Int), .ref b]) (ea_cons (ev_var rfl) (ea_cons (ev_var rfl) ea_nil)) (SpV.of fun H4 e4 Q E q => ⟨n, b, ys, rfl, (((e1.trans e2).trans e3).trans e4) _ _ hb, hyl, hy, q⟩)) fun H4 e4 => ?_
    have E4 : Ex H H4 := ((e1.trans e2).trans e3).trans e4
    refine q_asg (v := on (lastUn (mvs n xs) (mvs n ys))) (ev_callLL (el_call (vs := [.int (n : Int), .ref a]) (ea_cons (ev_var rfl) (ea_cons (ev_var rfl) ea_nil)) (SpL.of fun H5 e5 Q E q => ⟨n, a, xs, rfl, (E4.trans e5) _ _ ha, hn, hx, q⟩)) (el_call (vs := [.int (n : Int), .ref b]) (ea_cons (ev_var rfl) (ea_cons (ev_var rfl) ea_nil)) (SpL.of fun H5 e5 Q E q => ⟨n, b, ys, rfl, (E4.trans e5) _ _ hb, hn, hy, q⟩))
      fun p1 p2 H5 e5 h1 h2 => SpV.of fun H6 e6 Q E q => ⟨p1, p2, _, _, rfl, e6 _ _ h1, e6 _ _ h2, by omega, by omega, mvs_ok hx, mvs_ok hy, q⟩) fun H5 e5 => ?_
    have E5 : Ex H H5 := E4.trans e5
    generalize hlu : lastUn (mvs n xs) (mvs n ys) = lu
    have hnp : ∀ p, lu = some p → 1 < J.length → npart J n xs ys = some (List.replicate p (J.getD 0 0) ++ [J.getD 1 0] ++ List.replicate (n - 1 - p) (J.getD 0 0)) := fun p hp h1 => by
      unfold npart
      rw [hlu, hp]
      exact if_pos h1
    have hnb : (lu = none ∨ ¬ 1 < J.length) → npart J n xs ys = npartB J n xs ys := fun hh => by
      unfold npart
      rw [hlu]
      cases lu with
      | none => rfl
      | some p =>
        rcases hh with z | z
        · cases z
        · exact if_neg z
    have hget : ∀ i, i < J.length → J[i]? = some (J.getD i 0) := fun i hi => by
      rw [List.getD_eq_getElem?_getD, List.getElem?_eq_getElem hi]
      rfl
    have tn : ∀ H6, Ev (tOp (fun x y H Q => y = .non ∧ Q (.bl (!decide (x = .non))) H) (tVar 4) (tC .non)) [some (sv J), some (.int (n : Int)), some (.ref a), some (.ref b), some (on lu), none, none] H6 (.bl (!decide (on lu = .non))) := fun H6 => ev_op (x := on lu) (ev_var rfl) ev_c fun H2 _ Q q => ⟨rfl, q H2 (Ex.refl H2)⟩
    have tl : ∀ H6, Ev (tOp (rI0 fun i j => .bl (decide (j < i))) (tCB rLenT (tCons (tVar 0) tNil)) (tC (.int 1))) [some (sv J), some (.int (n : Int)), some (.ref a), some (.ref b), some (on lu), none, none] H6 (.bl (decide ((1 : Int) < (J.length : Int)))) := fun H6 => ev_op (ev_lenT (ev_var rfl) (by omega)) ev_c rv_I0
    refine q_when (et_and (et_test (tn H5)) fun _ => et_test (tl H5)) (fun hb6 H6 e6 => ?_) (fun hb6 H6 e6 => ?_)
    · rw [Bool.and_eq_true] at hb6
      obtain ⟨hb1, hb2⟩ := hb6
      have h1 : 1 < J.length := by
        have := of_decide_eq_true hb2
        omega
      cases lu with
      | none => cases hb1
      | some p =>
        have hpn : p < n := by
          have := lastUn_lt hlu
          omega
        have g0 := hget 0 (by omega)
        have g1 := hget 1 (by omega)
        rw [hnp p rfl h1] at q
        refine s_ret (v := sv (List.replicate p (J.getD 0 0) ++ [J.getD 1 0] ++ List.replicate (n - 1 - p) (J.getD 0 0))) ?_ fun H7 e7 => q H7 ((E5.trans e6).trans e7)
        have t0 : Ev (tOp rMulS (tOp rIxT (tVar 0) (tC (.int 0))) (tVar 4)) [some (sv J), some (.int (n : Int)), some (.ref a), some (.ref b), some (on (some p)), none, none] H6 (sv (List.replicate p (J.getD 0 0))) := ev_is (ev_mulS (n := p) (ev_ixT (i := 0) (ev_var rfl) ev_c g0 (by omega)) (ev_var rfl) (by simp) (by omega)) (by rw [rep_one])
        have t2 : Ev (tOp rMulS (tOp rIxT (tVar 0) (tC (.int 0))) (tOp (rI0 fun i j => .int (i - j)) (tOp (rI0 fun i j => .int (i - j)) (tVar 1) (tC (.int 1))) (tVar 4))) [some (sv J), some (.int (n : Int)), some (.ref a), some (.ref b), some (on (some p)), none, none] H6 (sv (List.replicate (n - 1 - p) (J.getD 0 0))) := ev_is (ev_mulS (n := n - 1 - p) (ev_ixT (i := 0) (ev_var rfl) ev_c g0 (by omega)) (ev_dif (ev_dif (ev_var rfl) ev_c rfl) (ev_var rfl) (show (n : Int) - 1 - (p : Int) = _ by omega)) (by simp) (by omega)) (by rw [rep_one])
        refine ev_addT (ev_addT t0 (ev_ixT (i := 1) (ev_var rfl) ev_c g1 (by omega)) ?_) t2 ?_
        · simp
          omega
        · simp
          omega
    · have hbb : lu = none ∨ ¬ 1 < J.length := by
        cases lu with
        | none => exact .inl rfl
        | some p =>
          refine .inr fun z => ?_
          rw [decide_eq_true (show (1 : Int) < (J.length : Int) by omega)] at hb6
          cases hb6
      rw [hnb hbb] at q
      have E6 : Ex H H6 := E5.trans e6
      have hlen : (bodies J).length ≤ 26 := by
        have := List.length_filter_le (fun c => !decide (c ∈ J)) cLETTERS
        have e : cLETTERS.length = 26 := by decide
        unfold bodies
        omega
      refine q_asgL (xs := svs ((bodies J).map fun c => [c])) (el_is (el_lcW (n := cLETTERS.length) (fun i => !decide (cLETTERS.getD i 0 ∈ J)) (fun i => sv [cLETTERS.getD i 0]) (ei_str (l := cLETTERS) ev_c) (walk_T cLETTERS) (fun _ _ _ h => h) (by decide) fun i x H7 H8 hi e7 hy => ?_) ?_) fun c H7 nc e7 hc => ?_
      · obtain ⟨rfl, x, hx, rfl⟩ := hy
        have hxd : cLETTERS.getD i 0 = x := by
          rw [List.getD_eq_getElem?_getD, hx]
          rfl
        rw [hxd]
        refine ⟨Ex.refl _, [some (sv J), some (.int (n : Int)), some (.ref a), some (.ref b), some (on lu), none, some (sv [x])], rfl, fun Q q => q H8 (Ex.refl H8), et_test (ev_ninT (ev_var rfl) (ev_var rfl)), fun _ => ev_var rfl⟩
      · unfold given bodies svs
        rw [List.map_map]
        have e : cLETTERS = (List.range cLETTERS.length).map fun i => cLETTERS.getD i 0 := by decide
        conv => rhs; rw [e]
        rw [List.filter_map, List.map_map]
        rfl
      have E7 : Ex H H7 := E6.trans e7
      have lowB : LowS ((bodies J).map fun c => [c]) := fun s hs c hc => by
        obtain ⟨x, hx, rfl⟩ := List.mem_map.mp hs
        rw [List.mem_singleton.mp hc]
        exact (of_letters (List.mem_filter.mp hx).1).2
      have tA : Ev (tOp rEq (tOp (rI (fun _ j => 0 < j) fun i j => .int (i % j)) (tOp (rI0 fun i j => .int (i - j)) (tCall sp_turn_of [] E0 (tCons (tVar 2) tNil)) (tCall sp_turn_of [] E0 (tCons (tVar 3) tNil))) (tOp (rI0 fun i j => .int (i + j)) (tVar 1) (tC (.int 1)))) (tC (.int 0)))
          [some (sv J), some (.int (n : Int)), some (.ref a), some (.ref b), some (on lu), some (.ref c), none] H7 (.bl (decide (((turn xs : Int) - (turn ys : Int)) % ((n : Int) + 1) = 0))) :=
        ev_intEq (ev_mod (ev_dif (ev_call (vs := [.ref a]) (ea_cons (ev_var rfl) ea_nil) (SpV.of fun H8 e8 Q E q => ⟨a, xs, rfl, (E7.trans e8) _ _ ha, hxl, q⟩)) (ev_call (vs := [.ref b]) (ea_cons (ev_var rfl) ea_nil) (SpV.of fun H8 e8 Q E q => ⟨b, ys, rfl, (E7.trans e8) _ _ hb, hyl, q⟩)) rfl) (ev_add (ev_var rfl) ev_c rfl) (by omega) rfl) ev_c
      have tB1 : Ev (tOp (rEqD K) (tVar 5) (tLst tNil)) [some (sv J), some (.int (n : Int)), some (.ref a), some (.ref b), some (on lu), some (.ref c), none] H7 (.bl (decide (((bodies J).map fun c => [c]) = []))) := ev_eqS1 (ev_var rfl) hc el_nil lowB fun s hs => absurd hs List.not_mem_nil
      have tC1 : Ev (tOp rEq (tVar 0) (tC (sv []))) [some (sv J), some (.int (n : Int)), some (.ref a), some (.ref b), some (on lu), some (.ref c), none] H7 (.bl (decide (J = []))) := ev_strEq (ev_var rfl) ev_c
      have hbn : (((bodies J).map fun c => [c]) = []) ↔ bodies J = [] := List.map_eq_nil_iff
      refine q_when (et_or (et_test tA) fun _ => et_or (et_test tB1) fun _ => et_test tC1) (fun hb8 H8 e8 => ?_) (fun hb8 H8 e8 => ?_)
      · have hnone : npartB J n xs ys = none := by
          unfold npartB
          rw [if_pos]
          rw [Bool.or_eq_true, Bool.or_eq_true, decide_eq_true_eq, decide_eq_true_eq, decide_eq_true_eq, hbn] at hb8
          exact hb8
        rw [hnone] at q
        exact s_ret ev_c fun H9 e9 => q H9 ((E7.trans e8).trans e9)
      · rw [Bool.or_eq_false_iff, Bool.or_eq_false_iff, decide_eq_false_iff_not, decide_eq_false_iff_not, decide_eq_false_iff_not, hbn] at hb8
        obtain ⟨n1, n2, n3⟩ := hb8
        have hsome : npartB J n xs ys = some (lesser ((bodies J).getD 0 0 :: List.replicate n (J.getD 0 0)) (List.replicate n (J.getD 0 0) ++ [(bodies J).getD 0 0])) := by
          unfold npartB
          rw [if_neg]
          rintro (z | z | z)
          · exact n1 z
          · exact n2 z
          · exact n3 z
        rw [hsome] at q
        have g0 := hget 0 (List.length_pos_iff.mpr n3)
        have b0 : (bodies J)[0]? = some ((bodies J).getD 0 0) := by
          rw [List.getD_eq_getElem?_getD, List.getElem?_eq_getElem (List.length_pos_iff.mpr n2)]
          rfl
        have b1 : (svs ((bodies J).map fun c => [c]))[0]? = some (sv [(bodies J).getD 0 0]) := svs_get (by rw [List.getElem?_map, b0]; rfl)
        have t0 : ∀ H9, Ev (tOp rMulS (tOp rIxT (tVar 0) (tC (.int 0))) (tVar 1)) [some (sv J), some (.int (n : Int)), some (.ref a), some (.ref b), some (on lu), some (.ref c), none] H9 (sv (List.replicate n (J.getD 0 0))) := fun H9 => ev_is (ev_mulS (n := n) (ev_ixT (i := 0) (ev_var rfl) ev_c g0 (by omega)) (ev_var rfl) (by simp) (by omega)) (by rw [rep_one])
        refine s_ret (ev_minS (el_lst (ea_cons (ev_addT (a := [(bodies J).getD 0 0]) (ev_ixL (i := 0) (ev_var rfl) ev_c (e8 _ _ hc) b1) (t0 H8) ?_) (ea_cons (ev_addT (t0 H8) (ev_ixL (i := 0) (ev_var rfl) ev_c (e8 _ _ hc) b1) ?_) ea_nil)) (by simp))) fun H9 e9 => q H9 ((E7.trans e8).trans e9)
        · simp
          omega
        · simp
          omega
theorem ok_numbers_order (D : Dfn K mg "numbers_order" s_numbers_order p_numbers_order) (B : Bt mg) (c_check_number : Cal P w K mg base "check_number" p_check_number 3 sp_check_number) (c_check_numbers : Cal P w K mg base "check_numbers" p_check_numbers 4 (sp_prog .non)) (c_turn_of : Cal P w K mg base "turn_of" p_turn_of 1 sp_turn_of)
    (c_moved_by : Cal P w K mg base "moved_by" p_moved_by 1 sp_moved_by) (c_rounds_of : Cal P w K mg base "rounds_of" p_rounds_of 1 sp_rounds_of) (c_common_times : Cal P w K mg base "common_times" p_common_times 1 sp_common_times) : Cal P w K mg base "numbers_order" p_numbers_order 5 sp_numbers_order := by
  refine D.cal sc_numbers_order (fun vs H Q E h => ?_) (fun f cdv A outer s H vs Q E hr h => ?_)
  · obtain ⟨n, a, ps, rfl, _⟩ := h
    rfl
  · obtain ⟨n, a, ps, rfl, ha, hn, hl, hp, q⟩ := h
    have nd := sc_numbers_order.nd
    have hml : (mvs n ps).length = n := mvs_len hp
    have R := rounds_ok (mvs_ok hp)
    refine ⟨_, (pss_cons (ps_expr (pe_cal c_check_number (hr.mono (by decide)) (by rfl) (pa_cons (pv 0) (pa_cons pe_int (pa_cons (pe_gk B.gMOST_COUNT (by rfl)) pa_nil)))))
      (pss_cons (ps_expr (pe_cal c_check_numbers (hr.mono (by decide)) (by rfl) (pa_cons (pv 0) (pa_cons (pv 1) pa_nil))))
      (pss_cons (ps_par (by rfl) nd (i := 2) (j := 3) rfl rfl (by decide) rfl rfl (pa_cons pe_int (pa_cons (pe_op op_mod (pe_cal c_turn_of (hr.mono (by decide)) (by rfl) (pa_cons (pv 1) pa_nil)) (pe_op op_add (pv 0) pe_int)) pa_nil)) (by rfl))
      (pss_cons (ps_while PassesOwn.never (pt_cmpR op_ne (pe_op op_mod (pe_op op_mul (pv 3) (pv 2)) (pe_op op_add (pv 0) pe_int)) pe_int (nomark _))
        (pss_one (ps_set (i := 2) nd rfl (Or.inl rfl) (pe_op op_add (pv 2) pe_int))))
      (pss_one (ps_ret (pe_cal c_common_times (hr.mono (by decide)) (by rfl) (pa_cons (pe_op op_cat (pe_lc (own := [("lot", 4)]) (g := gName 4) (tt := tYes) rfl nd (pi_list (pe_cal c_rounds_of (hr.mono (by decide)) (by rfl) (pa_cons (pe_cal c_moved_by (hr.mono (by decide)) (by rfl) (pa_cons (pv 0) (pa_cons (pv 1) pa_nil))) pa_nil))) (blkOk_by (own := [("lot", 4)]) (N := N_numbers_order) (sc := defScope s_numbers_order) (by decide +kernel)) (fun _ _ _ _ _ => (pg_name (i := 4) nd rfl (Or.inl rfl))) (fun _ _ _ _ _ => pts_nil) (fun _ _ _ _ _ => (pe_callB (r := Evl.rLenS K) call_len_seq (by rfl) B.n_len (by decide +kernel) (pa_cons (pv 4) pa_nil)))) (pe_lst (pa_cons (pv 2) pa_nil))) pa_nil))))))))
      , ?_⟩
    refine q_drop (ev_call (vs := [.int (n : Int), .int 0, .int 60]) (ea_cons (ev_var rfl) (ea_cons ev_c (ea_cons ev_c ea_nil))) (SpV.of fun H2 _ Q E q => ⟨n, 0, .int 60, rfl, by omega, .inr ⟨60, rfl, by omega⟩, q⟩)) fun H1 e1 => ?_
    refine q_drop (ev_call (vs := [.int (n : Int), .ref a]) (ea_cons (ev_var rfl) (ea_cons (ev_var rfl) ea_nil)) (SpV.of fun H3 e3 Q E q => ⟨n, a, ps, rfl, (e1.trans e3) _ _ ha, hl, hp, q⟩)) fun H2 e2 => ?_
    have E2 : Ex H H2 := e1.trans e2
    generalize hs : turn ps % (n + 1) = s
    have hL : turnsOf n ps = (n + 1) / Nat.gcd (n + 1) s := by
      unfold turnsOf
      rw [hs]
    have hg : 0 < Nat.gcd (n + 1) s := Nat.gcd_pos_of_pos_left _ (Nat.succ_pos n)
    have hL1 : 1 ≤ turnsOf n ps := by
      rw [hL]
      exact (Nat.le_div_iff_mul_le hg).mpr (by rw [Nat.one_mul]; exact Nat.gcd_le_left _ (Nat.succ_pos n))
    have hL2 : turnsOf n ps ≤ n + 1 := by
      rw [hL]
      exact Nat.div_le_self _ _
    have hsl : s < n + 1 := by
      rw [← hs]
      exact Nat.mod_lt _ (Nat.succ_pos n)
    refine q_par2 (x := .int 1) (y := .int (s : Int)) ev_c (ev_mod (ev_call (vs := [.ref a]) (ea_cons (ev_var rfl) ea_nil) (SpV.of fun H3 e3 Q E q => ⟨a, ps, rfl, (E2.trans e3) _ _ ha, hl, q⟩)) (ev_add (ev_var rfl) ev_c rfl) (by omega) ?_) fun H3 e3 => ?_
    · rw [← hs, Int.natCast_emod, Int.natCast_add]
      rfl
    refine q_while (fun m σ' H' => ∃ t : Nat, σ' = [some (.int (n : Int)), some (.ref a), some (.int (t : Int)), some (.int (s : Int)), none] ∧ 1 ≤ t ∧ t ≤ turnsOf n ps ∧ m = turnsOf n ps - t ∧ Ex H H') _ ⟨1, rfl, Nat.le_refl _, hL1, rfl, E2.trans e3⟩ fun m σ' H4 hW => ?_
    obtain ⟨t, rfl, t1, t2, rfl, e4⟩ := hW
    have hst : ((s : Int) * (t : Int)) % ((n : Int) + 1) = ((s * t % (n + 1) : Nat) : Int) := by
      rw [Int.natCast_emod, Int.natCast_mul, Int.natCast_add]
      rfl
    refine ⟨_, et_test (ev_intNe (ev_mod (ev_prod (ev_var rfl) (ev_var rfl) (Or.inl ⟨by omega, by omega⟩) rfl) (ev_add (ev_var rfl) ev_c rfl) (by omega) hst) ev_c), fun hb H5 e5 => ?_, fun hb H5 e5 => ?_⟩
    · have hne : t ≠ turnsOf n ps := fun z => by
        have : (n + 1) ∣ s * t := (gcd_dvd (Nat.succ_pos n)).mpr (by rw [z, hL]; exact Nat.dvd_refl _)
        rw [Nat.mod_eq_zero_of_dvd this] at hb
        cases hb
      exact ⟨_, fun σ2 H2 hN => ⟨turnsOf n ps - (t + 1), by omega, hN⟩, s_asg (ev_add (c := ((t + 1 : Nat) : Int)) (ev_var rfl) ev_c rfl) fun H6 e6 => ⟨t + 1, rfl, by omega, by omega, rfl, (e4.trans e5).trans e6⟩⟩
    · have hd : (n + 1) ∣ s * t := by
        refine Nat.dvd_of_mod_eq_zero ?_
        rw [Bool.not_eq_false', decide_eq_true_eq] at hb
        omega
      have hd2 := (gcd_dvd (Nat.succ_pos n)).mp hd
      rw [← hL] at hd2
      have ht : t = turnsOf n ps := Nat.le_antisymm t2 (Nat.le_of_dvd t1 hd2)
      have E5 : Ex H H5 := e4.trans e5
      have g1 : EvL (tCall sp_moved_by [] E0 (tCons (tVar 0) (tCons (tVar 1) tNil))) [some (.int (n : Int)), some (.ref a), some (.int (t : Int)), some (.int (s : Int)), none] H5 (iv (mvs n ps)) := el_call (vs := [.int (n : Int), .ref a]) (ea_cons (ev_var rfl) (ea_cons (ev_var rfl) ea_nil)) (SpL.of fun H3 e3 Q E q => ⟨n, a, ps, rfl, (E5.trans e3) _ _ ha, hn, hp, q⟩)
      have hlen := R.few
      have g2 : EvL (tLc (iList K (tCall sp_rounds_of [] E0 (tCons (tCall sp_moved_by [] E0 (tCons (tVar 0) (tCons (tVar 1) tNil))) tNil))) (gName 4) tYes (tCB (Evl.rLenS K) (tCons (tVar 4) tNil)) [4]) [some (.int (n : Int)), some (.ref a), some (.int (t : Int)), some (.int (s : Int)), none] H5 (iv ((rounds (mvs n ps)).map List.length)) :=
        el_lens (show 4 < 5 by decide) (ell_callL g1 fun p H3 e3 hx Q E q => ⟨p, mvs n ps, rfl, hx, by omega, mvs_ok hp, q⟩) (show (roundsTo (mvs n ps) (mvs n ps).length).1.length ≤ 1000 by omega)
      have g3 := el_cat g2 (el_one (v := .int (t : Int)) (ta := tVar 2) (ev_var rfl)) (by
        rw [iv_len, List.length_map]
        show (roundsTo (mvs n ps) (mvs n ps).length).1.length + 1 ≤ 100000
        omega)
      have g4 : iv ((rounds (mvs n ps)).map List.length) ++ [V.int (t : Int)] = iv ((rounds (mvs n ps)).map List.length ++ [turnsOf n ps]) := by
        rw [iv_app, ht]
        rfl
      rw [g4] at g3
      refine s_ret (ev_callL1 g3 fun p H3 e3 hx => SpV.of fun H4 e4 Q E q => ⟨p, _, rfl, e4 _ _ hx, fun x hx2 => ?_, q⟩) fun H3 e3 => q H3 (E5.trans e3)
      rcases List.mem_append.mp hx2 with z | z
      · obtain ⟨lot, h1, rfl⟩ := List.mem_map.mp z
        have h3 := R.short lot h1
        exact ⟨List.length_pos_iff.mpr (R.pos lot h1), by omega⟩
      · rw [List.mem_singleton.mp z]
        omega
end
end K74
/-! walks: the law's own defs that draw nothing -/
namespace K74
open PySem PySem.Spec PyProof.Rows L2 Evl
def allW (L : List Nat) : Nat → List (List Nat)
  | 0 => [[]]
  | n + 1 => (allW L n).flatMap fun w => L.map fun c => w ++ [c]
def countJ (J w : List Nat) : Nat := (w.filter fun c => decide (c ∈ J)).length
def jplaces (J w : List Nat) : List Nat := (List.range w.length).filter fun i => decide (w.getD i 0 ∈ J)
def ledStep (J w : List Nat) (item : Nat) : List Nat := move w ((jplaces J w).getD item 0)
def led (J w items : List Nat) : List Nat := items.foldl (ledStep J) w
def parts2 (J : List Nat) (n : Nat) (a b w : List Nat) : Bool := decide (countJ J w = n) && !decide (led J w a = led J w b)
def firstW (J : List Nat) (n : Nat) (a b L : List Nat) : Option (List Nat) := (allW L n ++ allW L (n + 1)).find? (parts2 J n a b)
theorem range_getD {α : Type} (f : Nat → α) : ∀ w : List Nat, (List.range w.length).map (fun i => f (w.getD i 0)) = w.map f := fun w => by
  refine List.ext_getElem? fun i => ?_
  rw [List.getElem?_map, List.getElem?_map]
  by_cases h : i < w.length
  · rw [List.getElem?_eq_getElem (by rw [List.length_range]; exact h), List.getElem_range, List.getElem?_eq_getElem h]
    show some (f (w.getD i 0)) = some (f w[i])
    rw [List.getD_eq_getElem?_getD, List.getElem?_eq_getElem h]
    rfl
  · rw [List.getElem?_eq_none (by rw [List.length_range]; omega), List.getElem?_eq_none (by omega)]
    rfl
theorem range_getD_id (w : List Nat) : (List.range w.length).map (fun i => w.getD i 0) = w := by
  have := range_getD (fun x => x) w
  rw [List.map_id'] at this
  exact this
theorem jplaces_len (J w : List Nat) : (jplaces J w).length = countJ J w := by
  unfold jplaces countJ
  conv => rhs; rw [← range_getD_id w]
  rw [List.filter_map, List.length_map]
  rfl
theorem jplaces_lt {J w : List Nat} {i p : Nat} (h : (jplaces J w)[i]? = some p) : p < w.length := List.mem_range.mp (List.mem_filter.mp (List.mem_of_getElem? h)).1
theorem move_parts {α : Type} (w : List α) (p : Nat) : w = w.take p ++ ((w.drop p).take 1 ++ w.drop (p + 1)) := by
  have e : (w.drop p).take 1 ++ w.drop (p + 1) = w.drop p := by
    rw [← List.drop_drop]
    exact List.take_append_drop 1 _
  rw [e, List.take_append_drop]
theorem count_move (J w : List Nat) (p : Nat) : countJ J (move w p) = countJ J w := by
  conv => rhs; rw [move_parts w p]
  unfold move countJ
  rw [List.filter_append, List.filter_append, List.filter_append, List.filter_append, List.length_append, List.length_append, List.length_append, List.length_append]
  omega
theorem count_led (J : List Nat) : ∀ (items w : List Nat), countJ J (led J w items) = countJ J w
  | [], _ => rfl
  | i :: items, w => by
    show countJ J (led J (ledStep J w i) items) = _
    rw [count_led J items, ledStep, count_move]
theorem led_snoc (J w items : List Nat) (x : Nat) : led J w (items ++ [x]) = ledStep J (led J w items) x := by
  unfold led
  rw [List.foldl_append]
  rfl
theorem ledStep_len {J w : List Nat} {x : Nat} (h : x < countJ J w) : (ledStep J w x).length = w.length := by
  have hx : x < (jplaces J w).length := by rw [jplaces_len]; exact h
  have e : (jplaces J w)[x]? = some ((jplaces J w).getD x 0) := by
    rw [List.getD_eq_getElem?_getD, List.getElem?_eq_getElem hx]
    rfl
  exact move_len (jplaces_lt e)
theorem led_len {J : List Nat} : ∀ (items w : List Nat), (∀ x ∈ items, x < countJ J w) → (led J w items).length = w.length
  | [], _, _ => rfl
  | i :: items, w, h => by
    show (led J (ledStep J w i) items).length = _
    rw [led_len items (ledStep J w i) fun x hx => by rw [ledStep, count_move]; exact h x (List.mem_cons_of_mem _ hx), ledStep_len (h i (List.mem_cons_self ..))]
theorem allW_len (L : List Nat) : ∀ n, (allW L n).length = L.length ^ n
  | 0 => rfl
  | n + 1 => by
    show ((allW L n).flatMap fun w => L.map fun c => w ++ [c]).length = _
    rw [List.length_flatMap]
    simp only [List.length_map]
    rw [List.map_const', List.sum_replicate_nat, allW_len L n, Nat.pow_succ]
theorem allW_word (L : List Nat) : ∀ n, ∀ w ∈ allW L n, w.length = n
  | 0, w, h => by
    rw [List.mem_singleton.mp h]
    rfl
  | n + 1, w, h => by
    obtain ⟨v, hv, h2⟩ := List.mem_flatMap.mp h
    obtain ⟨c, _, rfl⟩ := List.mem_map.mp h2
    rw [List.length_append, allW_word L n v hv]
    rfl
def sp_swapped : Sp := fun vs H Q _ => ∃ (w : List Nat) (p : Nat), vs = [sv w, .int (p : Int)] ∧ w.length ≤ 1000 ∧ p < w.length ∧ RetV (sv (move w p)) H Q
def sp_moved : Sp := fun vs H Q _ => ∃ (a : Addr) (l : List Nat) (p : Nat), vs = [.ref a, .int (p : Int)] ∧ H a = some (.lst (iv l)) ∧ l.length ≤ 60 ∧ p < l.length ∧ RetL (iv (move l p)) H Q
def sp_all : Sp := fun vs H Q _ => ∃ (L : List Nat) (n : Nat), vs = [sv L, .int (n : Int)] ∧ L.length ≤ 3 ∧ n ≤ 5 ∧ RetL (svs (allW L n)) H Q
def sp_count : Sp := fun vs H Q _ => ∃ w J : List Nat, vs = [sv w, sv J] ∧ w.length ≤ 1000 ∧ RetV (.int (countJ J w : Int)) H Q
def sp_led : Sp := fun vs H Q _ => ∃ (w J : List Nat) (a : Addr) (xs : List Nat), vs = [sv w, sv J, .ref a] ∧ H a = some (.lst (iv xs)) ∧ w.length ≤ 1000 ∧ (∀ x ∈ xs, x < countJ J w) ∧ RetV (sv (led J w xs)) H Q
def sp_first : Sp := fun vs H Q _ => ∃ (J : List Nat) (n : Nat) (a b : Addr) (xs ys L : List Nat), vs = [sv J, .int (n : Int), .ref a, .ref b, sv L] ∧ H a = some (.lst (iv xs)) ∧ H b = some (.lst (iv ys)) ∧ L.length ≤ 3 ∧ n ≤ 4 ∧ (∀ x ∈ xs, x < n) ∧ (∀ x ∈ ys, x < n) ∧ RetV (os (firstW J n xs ys L)) H Q
def sp_turn : Sp := fun vs H Q _ => ∃ (a : Addr) (ps : List Nat) (n : Nat), vs = [.ref a, .int (n : Int)] ∧ H a = some (.lst (iv ps)) ∧ ps.length ≤ 10000 ∧ RetV (.int ((turn ps % (n + 1) : Nat) : Int)) H Q
def sp_common : Sp := fun vs H Q _ => ∃ (a b : Nat), vs = [.int (a : Int), .int (b : Int)] ∧ b ≤ 80 ∧ RetV (.int (Nat.gcd a b : Int)) H Q
theorem find_at {α : Type} {p : α → Bool} : ∀ {xs : List α} {j : Nat} {w : α}, xs[j]? = some w → (∀ v ∈ xs.take j, p v = false) → p w = true → xs.find? p = some w
  | [], _, _, h, _, _ => by simp at h
  | x :: xs, 0, w, h, _, hw => by
    have e : x = w := Option.some.inj h
    subst e
    rw [List.find?_cons, hw]
  | x :: xs, j + 1, w, h, hv, hw => by
    rw [List.find?_cons, hv x (by simp)]
    exact find_at (j := j) (w := w) (by simpa using h) (fun v hm => hv v (by rw [List.take_succ_cons]; exact List.mem_cons_of_mem _ hm)) hw
theorem find_no {α : Type} {p : α → Bool} {xs : List α} (h : ∀ v ∈ xs, p v = false) : xs.find? p = none := by
  rw [List.find?_eq_none]
  intro x hx
  rw [h x hx]
  exact Bool.false_ne_true
section
variable {K : PySem.W.Frag} {σ : L2.St} {H H' : Hp} {ta tb te tx : TE} {x y z v : V} {D : Ends} {g : TG} {tu tz : TS}
theorem s_par2 {i j : Nat} (h1 : Ev ta σ H x) (h2 : Ev tb σ H y) (k : ∀ H1, Ex H H1 → D.nx ((σ.set i (some x)).set j (some y)) H1) : tPar i j (tCons ta (tCons tb tNil)) D σ H :=
  h1 H (Ex.refl H) _ fun H1 e1 => h2 H1 e1 _ fun H2 e2 => ⟨_, _, rfl, k H2 (e1.trans e2)⟩
theorem s_forLc {xs : List V} (h : EvL te σ H xs) (k : ∀ p H1, H p = none → Ex H H1 → H1 p = some (.lst xs) → tFor (iList K (tC (.ref p))) g tu D σ H1) : tFor (iList K te) g tu D σ H := h H (Ex.refl H) _ k
/-- [x + 1 for x in xs] -/
theorem el_inc {a : Addr} {ps : List Nat} {j s : Nat} (hj : j < σ.length) (hs : σ[s]? = some (some (.ref a))) (ha : H a = some (.lst (iv ps))) (hl : ps.length ≤ 10000) : EvL (tLc (iList K (tVar s)) (gName j) tYes (tOp (rI0 fun i j => V.int (i + j)) (tVar j) (tC (V.int 1))) [j]) σ H (iv (ps.map (· + 1))) := by
  refine el_is (el_lcW (fun _ => true) (fun i => ni ((ps.map (· + 1)).getD i 0)) (ei_list (ev_var hs) ha) walk_lst (fun _ _ e h => e _ _ h) (by rw [iv_len]; omega) fun i x H1 H2 hi e hy => ?_) ?_
  · obtain ⟨rfl, hx⟩ := hy
    obtain ⟨m, hm, rfl⟩ := iv_at hx
    refine ⟨Ex.refl _, (wipe σ [j]).set j (some (.int (m : Int))), ?_, fun Q q => q H2 (Ex.refl H2), et_yes, fun _ => ev_add (ev_var (v := .int (m : Int)) ?_) ev_c ?_⟩
    · show ((σ.set j none).set j (some (.int (m : Int)))).set j none = σ.set j none
      rw [List.set_set, List.set_set]
    · show ((σ.set j none).set j (some (.int (m : Int))))[j]? = _
      rw [List.getElem?_set_self (by rw [List.length_set]; exact hj)]
    · rw [List.getD_eq_getElem?_getD, List.getElem?_map, hm]
      rfl
  · rw [given_all, iv_len]
    have e := range_getD_id (ps.map (· + 1))
    rw [List.length_map] at e
    conv => rhs; rw [← e]
    rw [iv, List.map_map]
    rfl
end
section
variable {P : Program} {w : World} {K : PySem.W.Frag} {mg : Str → Option Value} {base : Heap}
theorem ok_swapped (D : Dfn K mg "_law_swapped" s_swapped p_swapped) (B : Bt mg) : Cal P w K mg base "_law_swapped" p_swapped 1 sp_swapped := by
  refine D.cal sc_swapped (fun vs H Q E h => ?_) (fun f cdv A outer s H vs Q E hr h => ?_)
  · obtain ⟨l, p, rfl, _⟩ := h
    rfl
  · obtain ⟨l, p, rfl, hl, hp, q⟩ := h
    have nd := sc_swapped.nd
    have hx : l[p]? = some l[p] := List.getElem?_eq_getElem hp
    refine ⟨_, (pss_one (ps_ret (pe_op op_addT (pe_op op_addT (pe_slice sl_T (pv 0) (po_some (pe_op op_add (pv 1) pe_int)) po_none) (pe_ix (r := rIxT) ix_T (pv 0) (pv 1) (fun _ _ => rfl))) (pe_slice sl_T (pv 0) po_none (po_some (pv 1))))))
      , ?_⟩
    refine s_ret (v := sv (move l p)) ?_ fun H1 e1 => q H1 e1
    unfold move
    rw [one_at hx]
    refine ev_addT (ev_addT (ev_slD (k := p + 1) (ev_var rfl) (ev_add (ev_var rfl) ev_c rfl) (by omega)) (ev_ixT (i := p) (ev_var rfl) (ev_var rfl) hx (by omega)) ?_) (ev_slT (k := p) (ev_var rfl) (ev_var rfl) (by omega)) ?_
    · simp
      omega
    · simp
      omega
theorem ok_moved (D : Dfn K mg "_law_moved" s_moved p_moved) (B : Bt mg) : Cal P w K mg base "_law_moved" p_moved 1 sp_moved := by
  refine D.cal sc_moved (fun vs H Q E h => ?_) (fun f cdv A outer s H vs Q E hr h => ?_)
  · obtain ⟨a, l, p, rfl, _⟩ := h
    rfl
  · obtain ⟨a, l, p, rfl, ha, hl, hp, q⟩ := h
    have nd := sc_moved.nd
    have hx : l[p]? = some l[p] := List.getElem?_eq_getElem hp
    refine ⟨_, (pss_one (ps_ret (pe_op op_cat (pe_op op_cat (pe_slice sl_list (pv 0) (po_some (pe_op op_add (pv 1) pe_int)) po_none) (pe_lst (pa_cons (pe_ix (r := rIxL K) ix_list (pv 0) (pv 1) (fun _ _ => rfl)) pa_nil))) (pe_slice sl_list (pv 0) po_none (po_some (pv 1))))))
      , ?_⟩
    refine s_retL (xs := iv (move l p)) ?_ fun c H1 nc e1 hc => q c H1 nc e1 hc
    rw [iv_move, one_at hx]
    refine el_cat (el_cat (el_slD (k := p + 1) (ev_var rfl) ha (ev_add (ev_var rfl) ev_c rfl)) (el_one (ev_ixL (i := p) (ev_var rfl) (ev_var rfl) ha (iv_get hx))) ?_) (el_slT (k := p) (ev_var rfl) ha (ev_var rfl)) ?_
    · simp [iv_len]
      omega
    · simp [iv_len]
      omega
theorem ok_moves (D : Dfn K mg "_law_moves" s_moves p_moves) (B : Bt mg) (c_moved : Cal P w K mg base "_law_moved" p_moved 1 sp_moved) : Cal P w K mg base "_law_moves" p_moves 2 sp_moved_by := by
  refine D.cal sc_moves (fun vs H Q E h => ?_) (fun f cdv A outer s H vs Q E hr h => ?_)
  · obtain ⟨n, a, ps, rfl, _⟩ := h
    rfl
  · obtain ⟨n, a, ps, rfl, ha, hn, hp, q⟩ := h
    have nd := sc_moves.nd
    refine ⟨_, (pss_cons (ps_set (i := 2) nd rfl (Or.inl rfl) (pe_listRg rfl (by rfl) B.n_list (prg_1 (by rfl) B.n_range (pv 0))))
      (pss_cons (ps_for PassesOwn.never rfl (pi_list (pv 1)) (pg_name (i := 3) nd rfl (Or.inl rfl))
        (pss_one (ps_set (i := 2) nd rfl (Or.inl rfl) (pe_cal c_moved (hr.mono (by decide)) (by rfl) (pa_cons (pv 2) (pa_cons (pv 3) pa_nil))))))
      (pss_one (ps_ret (pv 2)))))
      , ?_⟩
    refine q_asgL (el_rg (ev_var rfl) (by omega)) fun p H1 np e1 h1 => ?_
    refine q_forLn (ev_var rfl) (sq_of (e1 a _ ha)) (fun i σ' H' => ∃ c y, σ' = [some (.int (n : Int)), some (.ref a), some (.ref c), y] ∧ H c = none ∧ Ex H H' ∧ H' c = some (.lst (iv (mvs n (ps.take i))))) (fun H2 e2 => ⟨p, _, rfl, np, e1.trans e2, e2 _ _ h1⟩) (fun i σ' H' _ hW => ?_) (fun i x σ' H' hx hW => ?_) (fun σ' H' hW => ?_)
    · obtain ⟨c, y, rfl, nc, e, hc⟩ := hW
      exact sq_of (e a _ ha)
    · obtain ⟨c, y, rfl, nc, e, hc⟩ := hW
      obtain ⟨j, hj, rfl⟩ := iv_at hx
      have hjn : j < n := hp j (List.mem_of_getElem? hj)
      have hlen : (mvs n (ps.take i)).length = n := mvs_len fun r hr' => hp r (List.mem_of_mem_take hr')
      refine s_asgL (xs := iv (mvs n (ps.take (i + 1)))) (el_call (vs := [.ref c, .int (j : Int)]) (ea_cons (ev_var rfl) (ea_cons (ev_var rfl) ea_nil)) (SpL.of fun H2 e2 Q E q => ⟨c, _, j, rfl, e2 _ _ hc, by omega, by omega, ?_⟩)) fun p H2 np e2 h2 => ⟨p, _, rfl, fresh_back e np, e.trans e2, h2⟩
      rw [take_snoc hj, mvs_snoc] at q
      exact q
    · obtain ⟨c, y, rfl, nc, e, hc⟩ := hW
      rw [iv_len, List.take_length] at hc
      exact s_ret (ev_var rfl) fun H2 e2 => q c H2 nc (e.trans e2) (e2 _ _ hc)
theorem ok_all (D : Dfn K mg "_law_all" s_all p_all) (B : Bt mg) : Cal P w K mg base "_law_all" p_all 1 sp_all := by
  refine D.cal sc_all (fun vs H Q E h => ?_) (fun f cdv A outer s H vs Q E hr h => ?_)
  · obtain ⟨L, n, rfl, _⟩ := h
    rfl
  · obtain ⟨L, n, rfl, hL, hn, q⟩ := h
    have nd := sc_all.nd
    refine ⟨_, (pss_cons (ps_set (i := 2) nd rfl (Or.inl rfl) (pe_lst (pa_cons pe_str pa_nil)))
      (pss_cons (ps_for PassesOwn.never rfl (pi_range1 (by rfl) B.n_range (pa_cons (pv 1) pa_nil)) (pg_name (i := 3) nd rfl (Or.inl rfl))
        (pss_cons (ps_set (i := 4) nd rfl (Or.inl rfl) (pe_lst pa_nil))
        (pss_cons (ps_for PassesOwn.never rfl (pi_list (pv 2)) (pg_name (i := 5) nd rfl (Or.inr rfl))
          (pss_one (ps_set (i := 4) nd rfl (Or.inl rfl) (pe_op op_cat (pv 4) (pe_lc (own := [("_law_letter", 6)]) (g := gName 6) (tt := tYes) rfl nd (pi_str (pv 0)) (blkOk_by (own := [("_law_letter", 6)]) (N := N_all) (sc := defScope s_all) (by decide +kernel)) (fun _ _ _ _ _ => (pg_name (i := 6) nd rfl (Or.inl rfl))) (fun _ _ _ _ _ => pts_nil) (fun _ _ _ _ _ => (pe_op op_addT (pv 5) (pv 6))))))))
        (pss_one (ps_set (i := 2) nd rfl (Or.inl rfl) (pv 4))))))
      (pss_one (ps_ret (pv 2)))))
      , ?_⟩
    refine q_asgL (xs := svs [[]]) (el_one ev_c) fun p H1 np e1 h1 => ?_
    refine q_forW (n := n) (ei_rng1 (ev_var rfl) (by omega)) walk_range (fun i σ' H' => ∃ c y3 y4 y5, σ' = [some (sv L), some (.int (n : Int)), some (.ref c), y3, y4, y5, none] ∧ H c = none ∧ Ex H H' ∧ H' c = some (.lst (svs (allW L i)))) (fun H2 e2 _ => ⟨p, _, _, _, rfl, np, e1.trans e2, e2 _ _ h1⟩) (fun _ _ _ _ _ => trivial) (fun i x σ' H2 H3 hi hW hy => ?_) (fun σ' H' hW => ?_)
    · obtain ⟨c, y3, y4, y5, rfl, nc, e, hc⟩ := hW
      obtain ⟨rfl, rfl⟩ := hy
      have hwl : (allW L i).length ≤ 243 := by
        rw [allW_len]
        exact Nat.le_trans (Nat.pow_le_pow_left hL i) (Nat.le_trans (Nat.pow_le_pow_right (by decide) (show i ≤ 5 by omega)) (by decide))
      have hww := allW_word L i
      generalize hA : allW L i = A at hc hwl hww
      refine q_asgL (xs := svs []) el_nil fun d H4 nd4 e4 hd => ?_
      refine q_forW (n := (svs A).length) (ei_list (ev_var rfl) (e4 _ _ hc)) walk_lst (fun j σ' H' => ∃ d y5, σ' = [some (sv L), some (.int (n : Int)), some (.ref c), some (.int (0 + (i : Int))), some (.ref d), y5, none] ∧ H d = none ∧ Ex H H' ∧ H' c = some (.lst (svs A)) ∧ H' d = some (.lst (svs ((A.take j).flatMap fun w => L.map fun c => w ++ [c]))))
        (fun H5 e5 _ => ⟨d, _, rfl, fresh_back e nd4, (e.trans e4).trans e5, (e4.trans e5) _ _ hc, e5 _ _ hd⟩) (fun j σ' H' _ hW => ?_) (fun j x σ' H5 H6 hj hW hy => ?_) (fun σ' H' hW => ?_)
      · obtain ⟨_, _, rfl, _, _, h, _⟩ := hW
        exact h
      · obtain ⟨d5, z5, rfl, nd5, e5, hc5, hd5⟩ := hW
        obtain ⟨rfl, hx⟩ := hy
        obtain ⟨v, hv, rfl⟩ := svs_at hx
        have hvl := hww v (List.mem_of_getElem? hv)
        rw [svs_len] at hj
        have eT : (A.take (j + 1)).flatMap (fun w => L.map fun c => w ++ [c]) = ((A.take j).flatMap fun w => L.map fun c => w ++ [c]) ++ L.map fun c => v ++ [c] := by
          rw [take_snoc hv, List.flatMap_append, List.flatMap_singleton]
        have hbd : ((A.take j).flatMap fun w => L.map fun c => w ++ [c]).length ≤ 1000 := by
          rw [List.length_flatMap]
          simp only [List.length_map]
          rw [List.map_const', List.sum_replicate_nat, List.length_take]
          have : min j A.length * L.length ≤ 243 * 3 := Nat.mul_le_mul (by omega) hL
          omega
        rw [eT]
        have g1 : EvL (tLc (iStr (tVar 0)) (gName 6) tYes (tOp rAddT (tVar 5) (tVar 6)) [6]) [some (sv L), some (.int (n : Int)), some (.ref c), some (.int (0 + (i : Int))), some (.ref d5), some (sv v), none] H6 (svs (L.map fun c => v ++ [c])) := by
          refine el_is (el_lcW (n := L.length) (fun _ => true) (fun k => sv (v ++ [L.getD k 0])) (ei_str (ev_var rfl)) (walk_T L) (fun _ _ _ h => h) (by omega) fun k x H7 H8 hk e7 hy => ?_) ?_
          · obtain ⟨rfl, x, hx, rfl⟩ := hy
            have hxd : L.getD k 0 = x := by
              rw [List.getD_eq_getElem?_getD, hx]
              rfl
            rw [hxd]
            refine ⟨Ex.refl _, [some (sv L), some (.int (n : Int)), some (.ref c), some (.int (0 + (i : Int))), some (.ref d5), some (sv v), some (sv [x])], rfl, fun Q q => q H8 (Ex.refl H8), et_yes, fun _ => ev_addT (ev_var rfl) (ev_var rfl) ?_⟩
            rw [List.length_singleton]
            omega
          · rw [given_all]
            show (List.range L.length).map (fun k => sv (v ++ [L.getD k 0])) = svs (L.map fun c => v ++ [c])
            rw [range_getD (fun c => sv (v ++ [c])) L, svs, List.map_map]
            rfl
        refine s_asgL (xs := svs (((A.take j).flatMap fun w => L.map fun c => w ++ [c]) ++ L.map fun c => v ++ [c])) (el_is (el_cat1 (ev_var rfl) hd5 g1 ?_) (svs_app _ _).symm) fun d7 H7 nd7 e7 hd7 => ⟨d7, _, rfl, fresh_back e5 nd7, e5.trans e7, e7 _ _ hc5, hd7⟩
        rw [svs_len, svs_len, List.length_map]
        omega
      · obtain ⟨d5, z5, rfl, nd5, e5, hc5, hd5⟩ := hW
        rw [svs_len, List.take_length, ← hA] at hd5
        exact s_asg (ev_var rfl) fun H7 e7 => ⟨d5, _, _, _, rfl, nd5, e5.trans e7, e7 _ _ hd5⟩
    · obtain ⟨c, y3, y4, y5, rfl, nc, e, hc⟩ := hW
      exact s_ret (ev_var rfl) fun H2 e2 => q c H2 nc (e.trans e2) (e2 _ _ hc)
theorem ok_count (D : Dfn K mg "_law_count" s_count p_count) (B : Bt mg) : Cal P w K mg base "_law_count" p_count 1 sp_count := by
  refine D.cal sc_count (fun vs H Q E h => ?_) (fun f cdv A outer s H vs Q E hr h => ?_)
  · obtain ⟨l, J, rfl, _⟩ := h
    rfl
  · obtain ⟨l, J, rfl, hl, q⟩ := h
    have nd := sc_count.nd
    refine ⟨_, (pss_one (ps_ret (pe_callB (r := Evl.rLenS K) call_len_seq (by rfl) B.n_len (by decide +kernel) (pa_cons (pe_lc (own := [("_law_letter", 2)]) (g := gName 2) rfl nd (pi_str (pv 0)) (blkOk_by (own := [("_law_letter", 2)]) (N := N_count) (sc := defScope s_count) (by decide +kernel)) (fun _ _ _ _ _ => (pg_name (i := 2) nd rfl (Or.inl rfl))) (fun _ _ _ _ _ => (pts_one (pt_cmpR op_inT (pv 2) (pv 1) rfl))) (fun _ _ _ _ _ => (pv 2))) pa_nil))))
      , ?_⟩
    refine s_ret (v := .int (countJ J l : Int)) (ev_is (ev_lenN (el_lcW (n := l.length) (fun i => decide (l.getD i 0 ∈ J)) (fun i => sv [l.getD i 0]) (ei_str (ev_var rfl)) (walk_T l) (fun _ _ _ h => h) (by omega) fun i x H1 H2 hi e hy => ?_)) ?_) fun H1 e1 => q H1 e1
    · obtain ⟨rfl, x, hx, rfl⟩ := hy
      have hxd : l.getD i 0 = x := by
        rw [List.getD_eq_getElem?_getD, hx]
        rfl
      rw [hxd]
      exact ⟨Ex.refl _, [some (sv l), some (sv J), some (sv [x])], rfl, fun Q q => q H2 (Ex.refl H2), et_test (ev_inT (ev_var rfl) (ev_var rfl)), fun _ => ev_var rfl⟩
    · unfold given
      rw [List.length_map]
      have := jplaces_len J l
      unfold jplaces at this
      rw [this]
theorem ok_led (D : Dfn K mg "_law_led" s_led p_led) (B : Bt mg) (c_swapped : Cal P w K mg base "_law_swapped" p_swapped 1 sp_swapped) : Cal P w K mg base "_law_led" p_led 2 sp_led := by
  refine D.cal sc_led (fun vs H Q E h => ?_) (fun f cdv A outer s H vs Q E hr h => ?_)
  · obtain ⟨l, J, a, xs, rfl, _⟩ := h
    rfl
  · obtain ⟨l, J, a, xs, rfl, ha, hl, hx, q⟩ := h
    have nd := sc_led.nd
    refine ⟨_, (pss_cons (ps_for PassesOwn.never rfl (pi_list (pv 2)) (pg_name (i := 3) nd rfl (Or.inl rfl))
        (pss_cons (ps_set (i := 4) nd rfl (Or.inl rfl) (pe_ix (r := rIxL K) ix_list (pe_lc (own := [("_law_at", 5), ("_law_letter", 6)]) (g := gTup K 2 (gCons (gName 5) (gCons (gName 6) gNil))) rfl nd (pi_enumS (by rfl) B.n_enumerate (pa_cons (pv 0) pa_nil)) (blkOk_by (own := [("_law_at", 5), ("_law_letter", 6)]) (N := N_led) (sc := defScope s_led) (by decide +kernel)) (fun _ _ _ _ _ => (pg_tup rfl (pgs_cons (pg_name (i := 5) nd rfl (Or.inl rfl)) (pgs_cons (pg_name (i := 6) nd rfl (Or.inl rfl)) pgs_nil)))) (fun _ _ _ _ _ => (pts_one (pt_cmpR op_inT (pv 6) (pv 1) rfl))) (fun _ _ _ _ _ => (pv 5))) (pv 3) (fun _ _ => rfl)))
        (pss_one (ps_set (i := 0) nd rfl (Or.inl rfl) (pe_cal c_swapped (hr.mono (by decide)) (by rfl) (pa_cons (pv 0) (pa_cons (pv 4) pa_nil)))))))
      (pss_one (ps_ret (pv 0))))
      , ?_⟩
    refine q_forW (ei_list (ev_var rfl) ha) walk_lst (fun i σ' H' => ∃ y3 y4, σ' = [some (sv (led J l (xs.take i))), some (sv J), some (.ref a), y3, y4, none, none] ∧ Ex H H') (fun H2 e2 _ => ⟨_, _, rfl, e2⟩) (fun i σ' H' _ hW => ?_) (fun i x σ' H2 H3 hi hW hy => ?_) (fun σ' H' hW => ?_)
    · obtain ⟨_, _, rfl, e⟩ := hW
      exact e a _ ha
    · obtain ⟨y3, y4, rfl, e⟩ := hW
      obtain ⟨rfl, hx2⟩ := hy
      obtain ⟨j, hj, rfl⟩ := iv_at hx2
      have hlen : (led J l (xs.take i)).length = l.length := led_len _ _ fun x hm => hx x (List.mem_of_mem_take hm)
      have hcnt := count_led J (xs.take i) l
      rw [take_snoc hj, led_snoc]
      generalize led J l (xs.take i) = u at hlen hcnt
      have hjc : j < (jplaces J u).length := by
        rw [jplaces_len, hcnt]
        exact hx j (List.mem_of_getElem? hj)
      have hjp : (jplaces J u)[j]? = some ((jplaces J u).getD j 0) := by
        rw [List.getD_eq_getElem?_getD, List.getElem?_eq_getElem hjc]
        rfl
      have hpl := jplaces_lt hjp
      have g1 : EvL (tLc (iEnumS (tCons (tVar 0) tNil)) (gTup K 2 (gCons (gName 5) (gCons (gName 6) gNil))) (tTest (tOp rInT (tVar 6) (tVar 1))) (tVar 5) [5, 6]) [some (sv u), some (sv J), some (.ref a), some (.int (j : Int)), y4, none, none] H3 (iv (jplaces J u)) := by
        refine el_lcW (n := u.length) (fun i => decide (u.getD i 0 ∈ J)) ni (ei_enumS (ev_var rfl)) (walk_ET u) (fun _ _ _ h => h) (by omega) fun k x H7 H8 hk e7 hy => ?_
        obtain ⟨T, v1, v2, rfl, nT, rfl, f1, f2⟩ := hy
        cases (show V.int (k : Nat) = v1 from Option.some.inj f1)
        obtain ⟨c, hc⟩ : ∃ c, u[k]? = some c := ⟨_, List.getElem?_eq_getElem hk⟩
        have f2 : (u[k]?).map (fun c => sv [c]) = some v2 := f2
        rw [hc] at f2
        cases (show sv [c] = v2 from Option.some.inj f2)
        have hxd : u.getD k 0 = c := by
          rw [List.getD_eq_getElem?_getD, hc]
          rfl
        rw [hxd]
        exact ⟨Ex.new nT, [some (sv u), some (sv J), some (.ref a), some (.int (j : Int)), y4, some (.int (k : Int)), some (sv [c])], rfl, fun Q q => ⟨T, [.int (k : Nat), sv [c]], rfl, .inl (.inl upd_same), rfl, _, _, rfl, _, _, rfl, rfl, q _ (Ex.refl _)⟩, et_test (ev_inT (ev_var rfl) (ev_var rfl)), fun _ => ev_var rfl⟩
      refine q_asg (ev_opL1 g1 (fun _ _ => ev_var rfl) fun p H1 hp _ => rv_ixL (sq_of hp) (atI_nat (iv_get hjp))) fun H4 e4 => ?_
      exact s_asg (ev_call (vs := [sv u, .int (((jplaces J u).getD j 0 : Nat) : Int)]) (ea_cons (ev_var rfl) (ea_cons (ev_var rfl) ea_nil)) (SpV.of fun H5 _ Q E q => ⟨u, _, rfl, by omega, hpl, q⟩)) fun H5 e5 => ⟨_, _, rfl, (e.trans e4).trans e5⟩
    · obtain ⟨_, _, rfl, e⟩ := hW
      rw [iv_len, List.take_length]
      exact s_ret (ev_var rfl) fun H2 e2 => q H2 (e.trans e2)
theorem ok_first (D : Dfn K mg "_law_first" s_first p_first) (B : Bt mg) (c_all : Cal P w K mg base "_law_all" p_all 1 sp_all) (c_count : Cal P w K mg base "_law_count" p_count 1 sp_count) (c_led : Cal P w K mg base "_law_led" p_led 2 sp_led) : Cal P w K mg base "_law_first" p_first 3 sp_first := by
  refine D.cal sc_first (fun vs H Q E h => ?_) (fun f cdv A outer s H vs Q E hr h => ?_)
  · obtain ⟨J, n, a, b, xs, ys, L, rfl, _⟩ := h
    rfl
  · obtain ⟨J, n, a, b, xs, ys, L, rfl, ha, hb, hL, hn, hx, hy, q⟩ := h
    have nd := sc_first.nd
    refine ⟨_, (pss_cons (ps_for PassesOwn.never rfl (pi_range2 (by rfl) B.n_range (pa_cons (pv 1) (pa_cons (pe_op op_add (pv 1) pe_int) pa_nil))) (pg_name (i := 5) nd rfl (Or.inl rfl))
        (pss_one (ps_for PassesOwn.never rfl (pi_list (pe_cal c_all (hr.mono (by decide)) (by rfl) (pa_cons (pv 4) (pa_cons (pv 5) pa_nil)))) (pg_name (i := 6) nd rfl (Or.inl rfl))
          (pss_one (ps_if (PW.pt (pw_and (pt_cmpR op_eq (pe_cal c_count (hr.mono (by decide)) (by rfl) (pa_cons (pv 6) (pa_cons (pv 0) pa_nil))) (pv 1) (nomark _)) (pw_and1 (pt_cmpR op_ne (pe_cal c_led (hr.mono (by decide)) (by rfl) (pa_cons (pv 6) (pa_cons (pv 0) (pa_cons (pv 2) pa_nil)))) (pe_cal c_led (hr.mono (by decide)) (by rfl) (pa_cons (pv 6) (pa_cons (pv 0) (pa_cons (pv 3) pa_nil)))) (nomark _)))))
            (pss_one (ps_ret (pv 6)))
            pss_nil)))))
      (pss_one (ps_ret pe_non)))
      , ?_⟩
    refine q_forW (ei_rng2 (m := n) (n := n + 2) (ev_var rfl) (ev_add (ev_var rfl) ev_c rfl) (by omega) (by omega)) walk_range (fun i σ' H' => ∃ y5 y6, σ' = [some (sv J), some (.int (n : Int)), some (.ref a), some (.ref b), some (sv L), y5, y6] ∧ Ex H H' ∧ ∀ k, k < i → (allW L (n + k)).find? (parts2 J n xs ys) = none) (fun H2 e2 _ => ⟨_, _, rfl, e2, fun k hk => absurd hk (Nat.not_lt_zero _)⟩) (fun _ _ _ _ _ => trivial) (fun i x σ' H2 H3 hi hW hy => ?_) (fun σ' H' hW => ?_)
    · obtain ⟨y5, y6, rfl, e, hno⟩ := hW
      obtain ⟨rfl, rfl⟩ := hy
      have hww := allW_word L (n + i)
      have hfirst : ∀ v, (allW L (n + i)).find? (parts2 J n xs ys) = some v → firstW J n xs ys L = some v := fun v hv => by
        unfold firstW
        rw [List.find?_append]
        have hi2 : i = 0 ∨ i = 1 := by omega
        rcases hi2 with rfl | rfl
        · rw [Nat.add_zero] at hv
          rw [hv]
          rfl
        · have h0 := hno 0 (by omega)
          rw [Nat.add_zero] at h0
          rw [h0, hv]
          rfl
      refine s_forLc (el_call (vs := [sv L, .int ((n + i : Nat) : Int)]) (ea_cons (ev_var rfl) (ea_cons (ev_int (ev_var rfl) (by omega)) ea_nil)) (SpL.of fun H4 _ Q E q => ⟨L, n + i, rfl, hL, by omega, q⟩)) fun p H4 np e4 hp => ?_
      generalize hAw : allW L (n + i) = A at hww hfirst hp
      refine s_forW (ei_list ev_c hp) walk_lst (fun j σ' H' => ∃ y6, σ' = [some (sv J), some (.int (n : Int)), some (.ref a), some (.ref b), some (sv L), some (.int ((n : Int) + (i : Int))), y6] ∧ Ex H H' ∧ H' p = some (.lst (svs A)) ∧ ∀ v ∈ A.take j, parts2 J n xs ys v = false) (fun H5 e5 _ => ⟨_, rfl, (e.trans e4).trans e5, e5 _ _ hp, fun v hv => absurd hv List.not_mem_nil⟩) (fun j σ' H' _ hW => ?_) (fun j x σ' H5 H6 hj hW hy => ?_) (fun σ' H' hW => ?_)
      · obtain ⟨_, rfl, _, h, _⟩ := hW
        exact h
      · obtain ⟨z6, rfl, e5, hp5, hv5⟩ := hW
        obtain ⟨rfl, hx2⟩ := hy
        obtain ⟨v, hv, rfl⟩ := svs_at hx2
        have hvl := hww v (List.mem_of_getElem? hv)
        have hdn : decide ((countJ J v : Int) = (n : Int)) = decide (countJ J v = n) := by
          by_cases h : countJ J v = n
          · rw [decide_eq_true h, decide_eq_true (by omega)]
          · rw [decide_eq_false h, decide_eq_false (by omega)]
        have tc : EvT (tTest (tOp rEq (tCall sp_count [] E0 (tCons (tVar 6) (tCons (tVar 0) tNil))) (tVar 1))) [some (sv J), some (.int (n : Int)), some (.ref a), some (.ref b), some (sv L), some (.int ((n : Int) + (i : Int))), some (sv v)] H6 (decide (countJ J v = n)) := by
          rw [← hdn]
          exact et_test (ev_intEq (ev_call (vs := [sv v, sv J]) (ea_cons (ev_var rfl) (ea_cons (ev_var rfl) ea_nil)) (SpV.of fun H7 _ Q E q => ⟨v, J, rfl, by omega, q⟩)) (ev_var rfl))
        refine s_when (b := parts2 J n xs ys v) (et_and tc fun hcn => ?_) (fun hb7 H7 e7 => ?_) (fun hb7 H7 e7 => ?_)
        · have hcn := of_decide_eq_true hcn
          exact et_test (ev_strNe (ev_call (vs := [sv v, sv J, .ref a]) (ea_cons (ev_var rfl) (ea_cons (ev_var rfl) (ea_cons (ev_var rfl) ea_nil))) (SpV.of fun H7 e7 Q E q => ⟨v, J, a, xs, rfl, (e5.trans e7) _ _ ha, by omega, by rw [hcn]; exact hx, q⟩)) (ev_call (vs := [sv v, sv J, .ref b]) (ea_cons (ev_var rfl) (ea_cons (ev_var rfl) (ea_cons (ev_var rfl) ea_nil))) (SpV.of fun H7 e7 Q E q => ⟨v, J, b, ys, rfl, (e5.trans e7) _ _ hb, by omega, by rw [hcn]; exact hy, q⟩)))
        · have hf := hfirst v (find_at hv hv5 hb7)
          rw [hf] at q
          exact s_ret (ev_var rfl) fun H8 e8 => q H8 ((e5.trans e7).trans e8)
        · refine ⟨_, rfl, e5.trans e7, e7 _ _ hp5, fun u hu => ?_⟩
          rw [take_snoc hv] at hu
          rcases List.mem_append.mp hu with z | z
          · exact hv5 u z
          · rw [List.mem_singleton.mp z]
            exact hb7
      · obtain ⟨z6, rfl, e5, hp5, hv5⟩ := hW
        rw [svs_len, List.take_length] at hv5
        refine ⟨_, _, rfl, e5, fun k hk => ?_⟩
        by_cases hki : k = i
        · subst hki
          rw [hAw]
          exact find_no hv5
        · exact hno k (by omega)
    · obtain ⟨y5, y6, rfl, e, hno⟩ := hW
      have h0 := hno 0 (by omega)
      have h1 := hno 1 (by omega)
      have hf : firstW J n xs ys L = none := by
        unfold firstW
        rw [List.find?_append]
        rw [Nat.add_zero] at h0
        rw [h0, h1]
        rfl
      rw [hf] at q
      exact s_ret ev_c fun H8 e8 => q H8 (e.trans e8)
theorem ok_turn (D : Dfn K mg "_law_turn" s_turn p_turn) (B : Bt mg) : Cal P w K mg base "_law_turn" p_turn 1 sp_turn := by
  refine D.cal sc_turn (fun vs H Q E h => ?_) (fun f cdv A outer s H vs Q E hr h => ?_)
  · obtain ⟨a, ps, n, rfl, _⟩ := h
    rfl
  · obtain ⟨a, ps, n, rfl, ha, hl, q⟩ := h
    have nd := sc_turn.nd
    refine ⟨_, (pss_one (ps_ret (pe_op op_mod (pe_callTy call_int1 (by rfl) B.n_int (by decide +kernel) (pa_cons (pe_callB (cr_sum rfl) (by rfl) B.n_sum (by decide +kernel) (pa_cons (pe_lc (own := [("_law_item", 2)]) (g := gName 2) (tt := tYes) rfl nd (pi_list (pv 0)) (blkOk_by (own := [("_law_item", 2)]) (N := N_turn) (sc := defScope s_turn) (by decide +kernel)) (fun _ _ _ _ _ => (pg_name (i := 2) nd rfl (Or.inl rfl))) (fun _ _ _ _ _ => pts_nil) (fun _ _ _ _ _ => (pe_op op_add (pv 2) pe_int))) pa_nil)) pa_nil)) (pe_op op_add (pv 1) pe_int))))
      , ?_⟩
    have hL : EvL (tLc (iList K (tVar 0)) (gName 2) tYes (tOp (rI0 fun i j => V.int (i + j)) (tVar 2) (tC (V.int 1))) [2]) (start N_turn [.ref a, .int (n : Int)]) H (iv (ps.map (· + 1))) := el_inc (show 2 < 3 by decide) rfl ha hl
    refine s_ret (ev_mod (a := (turn ps : Int)) (ev_cb (vs := [.int (turn ps : Int)]) (ea_cons (ev_sum hL) ea_nil) fun H1 _ Q q => .inl ⟨_, rfl, q H1 (Ex.refl H1)⟩) (ev_add (ev_var rfl) ev_c rfl) (by omega) ?_) fun H1 e => q H1 e
    rw [Int.natCast_emod, Int.natCast_add]
    rfl
theorem ok_common (D : Dfn K mg "_law_common" s_common p_common) (B : Bt mg) : Cal P w K mg base "_law_common" p_common 1 sp_common := by
  refine D.cal sc_common (fun vs H Q E h => ?_) (fun f cdv A outer s H vs Q E hr h => ?_)
  · obtain ⟨a, b, rfl, _⟩ := h
    rfl
  · obtain ⟨a, b, rfl, hb, q⟩ := h
    have nd := sc_common.nd
    refine ⟨_, (pss_cons (ps_for PassesOwn.never rfl (pi_range1 (by rfl) B.n_range (pa_cons pe_int pa_nil)) (pg_name (i := 2) nd rfl (Or.inl rfl))
        (pss_cons (ps_if (pt_cmpR op_eq (pv 1) pe_int (nomark _))
          (pss_one (ps_ret (pv 0)))
          pss_nil)
        (pss_one (ps_par (by rfl) nd (i := 0) (j := 1) rfl rfl (by decide) rfl rfl (pa_cons (pv 1) (pa_cons (pe_op op_mod (pe_callTy call_int1 (by rfl) B.n_int (by decide +kernel) (pa_cons (pv 0) pa_nil)) (pv 1)) pa_nil)) (by rfl)))))
      (pss_one (ps_ret (pv 0))))
      , ?_⟩
    refine q_forW (n := 90) (ei_rng1 (n := 90) ev_c (by decide)) walk_range (fun i σ' H' => ∃ (x y : Nat) (z : Option V), σ' = [some (.int (x : Int)), some (.int (y : Int)), z] ∧ Nat.gcd x y = Nat.gcd a b ∧ y + i ≤ 80 + (if y = 0 then i else 0) ∧ Ex H H') (fun H2 e2 _ => ⟨a, b, _, rfl, rfl, by split <;> omega, e2⟩) (fun _ _ _ _ _ => trivial) (fun i x σ' H2 H3 hi hW hy => ?_) (fun σ' H' hW => ?_)
    · obtain ⟨x, y, z, rfl, hg, hle, e⟩ := hW
      obtain ⟨rfl, rfl⟩ := hy
      refine q_when (et_test (ev_intEq (ev_var rfl) ev_c)) (fun hb1 H4 e4 => ?_) (fun hb1 H4 e4 => ?_)
      · have hy0 : y = 0 := by
          have := of_decide_eq_true hb1
          omega
        refine s_ret (ev_int (ev_var rfl) ?_) fun H5 e5 => q H5 ((e.trans e4).trans e5)
        rw [← hg, hy0, Nat.gcd_zero_right]
      · have hy0 : y ≠ 0 := by
          have := of_decide_eq_false hb1
          omega
        rw [if_neg hy0] at hle
        have hlt : x % y < y := Nat.mod_lt _ (by omega)
        refine s_par2 (x := .int (y : Int)) (y := .int ((x % y : Nat) : Int)) (ev_var rfl) (ev_mod (ev_cb (vs := [.int (x : Int)]) (ea_cons (ev_var rfl) ea_nil) fun H1 _ Q q => .inl ⟨_, rfl, q H1 (Ex.refl H1)⟩) (ev_var rfl) (by omega) (Int.natCast_emod _ _).symm) fun H5 e5 => ⟨y, x % y, _, rfl, ?_, ?_, (e.trans e4).trans e5⟩
        · rw [← hg, Nat.gcd_comm x y, Nat.gcd_rec y x, Nat.gcd_comm]
        · split <;> omega
    · obtain ⟨x, y, z, rfl, hg, hle, e⟩ := hW
      by_cases hy0 : y = 0
      · refine s_ret (ev_int (ev_var rfl) ?_) fun H5 e5 => q H5 (e.trans e5)
        rw [← hg, hy0, Nat.gcd_zero_right]
      · rw [if_neg hy0] at hle
        omega
end
end K74
/-! walks: the law's own defs that draw -/
namespace K74
open PySem PySem.Spec PyProof.Rows L2 Evl
/-- all but the generator's list stands -/
def ExG (g : Addr) (H H' : Hp) : Prop := ∀ a o, a ≠ g → H a = some o → H' a = some o
theorem ExG.of {g : Addr} {H H' : Hp} (e : Ex H H') : ExG g H H' := fun a o _ h => e a o h
theorem ExG.trans {g : Addr} {H H1 H2 : Hp} (a : ExG g H H1) (b : ExG g H1 H2) : ExG g H H2 := fun x o n h => b x o n (a x o n h)
theorem ExG.ex {g : Addr} {H H1 H2 : Hp} (a : ExG g H H1) (b : Ex H1 H2) : ExG g H H2 := a.trans (.of b)
theorem ExG.mut {g : Addr} {H H1 : Hp} {o : HO} (a : ExG g H H1) : ExG g H (upd H1 g o) := fun x u n h => by
  rw [upd_ne n]
  exact a x u n h
theorem ExG.new {g p : Addr} {H H1 : Hp} {o : HO} (a : ExG g H H1) (hp : H p = none) : ExG g H (upd H1 p o) := fun x u n h => by
  rw [upd_ne (ne_of_none h hp)]
  exact a x u n h
/-- the generator as it stands -/
def Gen (g : Addr) (c : Nat) (H : Hp) : Prop := ∃ a b i : Int, H g = some (.lst [.int a, .int b, .int i]) ∧ 0 ≤ b ∧ b < 2147483647 ∧ 0 ≤ i ∧ i ≤ (c : Int)
theorem Gen.ex {g : Addr} {c : Nat} {H H' : Hp} (h : Gen g c H) (e : Ex H H') : Gen g c H' := by
  obtain ⟨a, b, i, h1, h2⟩ := h
  exact ⟨a, b, i, e _ _ h1, h2⟩
theorem Gen.mono {g : Addr} {c d : Nat} {H : Hp} (h : Gen g c H) (e : c ≤ d) : Gen g d H := by
  obtain ⟨a, b, i, h1, h2, h3, h4, h5⟩ := h
  exact ⟨a, b, i, h1, h2, h3, h4, by omega⟩
theorem Gen.ne {g p : Addr} {c : Nat} {H : Hp} (h : Gen g c H) (hp : H p = none) : p ≠ g := fun z => by
  obtain ⟨a, b, i, h1, h2⟩ := h
  rw [z, h1] at hp
  cases hp
/-- what is fresh behind is fresh ahead -/
theorem fresh_backG {g p : Addr} {c : Nat} {H H' : Hp} (hg : Gen g c H') (e : ExG g H H') (h : H' p = none) : H p = none := by
  cases h1 : H p with
  | none => rfl
  | some o =>
    rw [e p o (hg.ne h) h1] at h
    cases h
def hash1 (s i : Int) : Int := (s * 1140671 + 27644437 * i * i + 131 * i + 19) % 2147483629
def hash2 (m i : Int) : Int := (m * m + 62089 * i + 32416187) % 2147483587
def hashF (s i : Int) : Int := hash2 (hash1 s i) i * 48271 % 2147483647
def sp_hash : Sp := fun vs H Q _ => ∃ s i : Int, vs = [.int s, .int i] ∧ 0 ≤ s ∧ s < 2147483647 ∧ 0 ≤ i ∧ i ≤ 10000000 ∧ RetV (.int (hashF s i)) H Q
def sp_random : Sp := fun vs H Q _ => ∃ (g : Addr) (b c : Nat), vs = [.ref g, .int (b : Int)] ∧ 1 ≤ b ∧ b ≤ 100 ∧ Gen g c H ∧ c ≤ 1000000 ∧ ∀ (r : Nat) H2, r < b → ExG g H H2 → Gen g (c + 1) H2 → Q (.int (r : Int)) H2
def sp_cell (K : PySem.W.Frag) : Sp := fun vs H Q _ => ∃ (a : Addr) (ns : List Int) (k : Nat), vs = [.ref a, .int (k : Int)] ∧ SqL K H a (ns.map V.int) ∧ ns.length ≤ 1000 ∧ ∀ (z : Int) H2, Ex H H2 → Q (.int z) H2
def sp_generator (K : PySem.W.Frag) : Sp := fun vs H Q _ => ∃ (a : Addr) (ns : List Int) (k : Nat), vs = [.ref a, .int (k : Int)] ∧ SqL K H a (ns.map V.int) ∧ ns.length ≤ 1000 ∧ k ≤ 10 ∧ ∀ g H2, H g = none → Ex H H2 → Gen g 10000 H2 → Q (.ref g) H2
def sp_program : Sp := fun vs H Q _ => ∃ (g : Addr) (n m c : Nat), vs = [.ref g, .int (n : Int), .int (m : Int)] ∧ n ≤ 100 ∧ m ≤ 100 ∧ Gen g c H ∧ c ≤ 100000 ∧
  ∀ p xs H2, H p = none → ExG g H H2 → Gen g (c + m) H2 → H2 p = some (.lst (iv xs)) → xs.length ≤ m → (∀ x ∈ xs, x < n) → Q (.ref p) H2
def sp_two : Sp := fun vs H Q _ => ∃ (g : Addr) (n c : Nat), vs = [.ref g, .int (n : Int)] ∧ n ≤ 60 ∧ Gen g c H ∧ c ≤ 50000 ∧
  ∀ T p q xs ys H2, H T = none → H p = none → H q = none → ExG g H H2 → Gen g (c + 100) H2 → H2 T = some (.tup [.ref p, .ref q]) → H2 p = some (.lst (iv xs)) → H2 q = some (.lst (iv ys)) → xs.length ≤ 10000 → ys.length ≤ 10000 → (∀ x ∈ xs, x < n) → (∀ x ∈ ys, x < n) → Q (.ref T) H2
section
variable {K : PySem.W.Frag} {σ : L2.St} {H H' : Hp} {ta tb tc te tx : TE} {x y z v : V} {D : Ends} {g : TG} {tu tz : TS}
/-- a draw -/
def EvR (g : Addr) (c b : Nat) (te : TE) (σ : L2.St) (H : Hp) : Prop := ∀ H1, Ex H H1 → ∀ Q : VK, (∀ (r : Nat) H2, r < b → ExG g H1 H2 → Gen g (c + 1) H2 → Q (.int (r : Int)) H2) → te σ H1 Q
theorem er_call {g : Addr} {c b : Nat} {E : XK} (h1 : Ev ta σ H (.ref g)) (h2 : Ev tb σ H (.int (b : Int))) (b1 : 1 ≤ b) (b2 : b ≤ 100) (hg : Gen g c H) (hc : c ≤ 1000000) : EvR g c b (tCall sp_random [] E (tCons ta (tCons tb tNil))) σ H := fun H1 e Q q =>
  h1 H1 e _ fun H2 e2 => h2 H2 (e.trans e2) _ fun H3 e3 => ⟨g, b, c, rfl, b1, b2, hg.ex ((e.trans e2).trans e3), hc, fun r H4 hr e4 g4 => q r H4 hr ((ExG.of (e2.trans e3)).trans e4) g4⟩
theorem q_draw {g : Addr} {c b i : Nat} (h : EvR g c b te σ H) (k : ∀ (r : Nat) H1, r < b → ExG g H H1 → Gen g (c + 1) H1 → tz D (σ.set i (some (.int (r : Int)))) H1) : tSeq (tAsg te (gName i)) tz D σ H := h H (Ex.refl H) _ fun r H1 hr e hg => k r H1 hr e hg
/-- a drawn list -/
def EvP (g : Addr) (c n : Nat) (te : TE) (σ : L2.St) (H : Hp) : Prop := ∀ Q : VK, (∀ p xs H2, H p = none → ExG g H H2 → Gen g c H2 → H2 p = some (.lst (iv xs)) → xs.length ≤ 10 → (∀ x ∈ xs, x < n) → Q (.ref p) H2) → te σ H Q
theorem q_prog {g : Addr} {c n i : Nat} (h : EvP g c n te σ H) (k : ∀ p xs H2, H p = none → ExG g H H2 → Gen g c H2 → H2 p = some (.lst (iv xs)) → xs.length ≤ 10 → (∀ x ∈ xs, x < n) → tz D (σ.set i (some (.ref p))) H2) : tSeq (tAsg te (gName i)) tz D σ H := h _ k
theorem s_retTup {ys : List V} (h1 : Ev ta σ H x) (h2 : EvL tb σ H ys) (k : ∀ T q H2, H T = none → H q = none → Ex H H2 → H2 T = some (.tup [x, .ref q]) → H2 q = some (.lst ys) → D.rt (.ref T) H2) : tRet (tTup (tCons ta (tCons tb tNil))) D σ H :=
  h1 H (Ex.refl H) _ fun H1 e1 => h2 H1 e1 _ fun q H2 nq e2 hq => ⟨(by show 2 ≤ sizeLine; decide), fun T nT => k T q _ (fresh_back (e1.trans e2) nT) (fresh_back e1 nq) ((e1.trans e2).trans (Ex.new nT)) upd_same (Ex.new nT _ _ hq)⟩
theorem q_call {sp : Sp} {E : XK} {i : Nat} {vs : List V} {ta : TA} (h : EvA ta σ H vs) (k : ∀ H1, Ex H H1 → sp (vs ++ []) H1 (fun v H2 => tz D (σ.set i (some v)) H2) E) : tSeq (tAsg (tCall sp [] E ta) (gName i)) tz D σ H := h H (Ex.refl H) _ k
theorem s_retTupP {g : Addr} {c n : Nat} (h1 : Ev ta σ H x) (h2 : ∀ H1, Ex H H1 → EvP g c n tb σ H1) (k : ∀ T q ys H1 H2, Ex H H1 → H1 q = none → ExG g H1 H2 → Gen g c H2 → H2 q = some (.lst (iv ys)) → ys.length ≤ 10 → (∀ x ∈ ys, x < n) → H2 T = none → D.rt (.ref T) (upd H2 T (.tup [x, .ref q]))) : tRet (tTup (tCons ta (tCons tb tNil))) D σ H :=
  h1 H (Ex.refl H) _ fun H1 e1 => h2 H1 e1 _ fun q ys H2 nq e2 g2 hq hl hy => ⟨(by show 2 ≤ sizeLine; decide), fun T nT => k T q ys H1 H2 e1 nq e2 g2 hq hl hy nT⟩
theorem el_back {a : Addr} {xs : List V} (h : Ev te σ H (.ref a)) (ha : H a = some (.lst xs)) : EvL (tBack K te) σ H xs.reverse := fun H1 e Q q =>
  h H1 e _ fun H2 e2 => ⟨a, xs, rfl, sq_of ((e.trans e2) _ _ ha), fun p hp => q p _ (fresh_back e2 hp) (e2.trans (Ex.new hp)) upd_same⟩
theorem ev_chain {a b c : Int} (h1 : Ev ta σ H (.int a)) (h2 : Ev tb σ H (.int b)) (h3 : Ev tc σ H (.int c)) : Ev (tChain (rI0 fun i j => .bl (decide (i < j))) (rI0 fun i j => .bl (decide (i < j))) ta tb tc) σ H (.bl (decide (a < b) && decide (b < c))) := fun H1 e Q q =>
  h1 H1 e _ fun H2 e2 => h2 H2 (e.trans e2) _ fun H3 e3 => ⟨a, b, rfl, rfl, _, rfl, by
    by_cases h : a < b
    · rw [decide_eq_true h]
      refine iteT ?_
      exact h3 H3 ((e.trans e2).trans e3) _ fun H4 e4 => ⟨b, c, rfl, rfl, by
        have := q H4 ((e2.trans e3).trans e4)
        rw [decide_eq_true h, Bool.true_and] at this
        exact this⟩
    · rw [decide_eq_false h]
      refine iteF ?_
      have := q H3 (e2.trans e3)
      rw [decide_eq_false h] at this
      exact this⟩
theorem ep_call {g : Addr} {c b n : Nat} {E : XK} (h1 : Ev ta σ H (.ref g)) (h2 : Ev tb σ H (.int (n : Int))) (hn : n ≤ 100) (h3 : EvR g c b tc σ H) (hb : b ≤ 10) (hc : c ≤ 90000) : EvP g (c + 11) n (tCall sp_program [] E (tCons ta (tCons tb (tCons tc tNil)))) σ H := fun Q q =>
  h1 H (Ex.refl H) _ fun H2 e2 => h2 H2 e2 _ fun H3 e3 => h3 H3 (e2.trans e3) _ fun r H4 hr e4 g4 => ⟨g, n, r, c + 1, rfl, hn, by omega, g4, by omega, fun p xs H5 np e5 g5 hp hl hx =>
    q p xs H5 (fresh_backG (g4) ((ExG.of (e2.trans e3)).trans e4) np) (((ExG.of (e2.trans e3)).trans e4).trans e5) (g5.mono (by omega)) hp (by omega) hx⟩
end
section
variable {P : Program} {w : World} {K : PySem.W.Frag} {mg : Str → Option Value} {base : Heap}
theorem ok_hash (D : Dfn K mg "_law_hash" s_hash p_hash) (B : Bt mg) : Cal P w K mg base "_law_hash" p_hash 1 sp_hash := by
  refine D.cal sc_hash (fun vs H Q E h => ?_) (fun f cdv A outer s H vs Q E hr h => ?_)
  · obtain ⟨a, i, rfl, _⟩ := h
    rfl
  · obtain ⟨a, i, rfl, h1, h2, h3, h4, q⟩ := h
    have nd := sc_hash.nd
    have m1 : 0 ≤ hash1 a i ∧ hash1 a i < 2147483629 := ⟨Int.emod_nonneg _ (by omega), Int.emod_lt_of_pos _ (by omega)⟩
    have m2 : 0 ≤ hash2 (hash1 a i) i ∧ hash2 (hash1 a i) i < 2147483587 := ⟨Int.emod_nonneg _ (by omega), Int.emod_lt_of_pos _ (by omega)⟩
    refine ⟨_, (pss_cons (ps_set (i := 2) nd rfl (Or.inl rfl) (pe_op op_mod (pe_callTy call_int1 (by rfl) B.n_int (by decide +kernel) (pa_cons (pe_op op_add (pe_op op_add (pe_op op_add (pe_op op_mul (pv 0) pe_int) (pe_op op_mul (pe_op op_mul pe_int (pv 1)) (pv 1))) (pe_op op_mul pe_int (pv 1))) pe_int) pa_nil)) pe_int))
      (pss_cons (ps_set (i := 2) nd rfl (Or.inl rfl) (pe_op op_mod (pe_callTy call_int1 (by rfl) B.n_int (by decide +kernel) (pa_cons (pe_op op_add (pe_op op_add (pe_op op_mul (pv 2) (pv 2)) (pe_op op_mul pe_int (pv 1))) pe_int) pa_nil)) pe_int))
      (pss_one (ps_ret (pe_op op_mod (pe_callTy call_int1 (by rfl) B.n_int (by decide +kernel) (pa_cons (pe_op op_mul (pv 2) pe_int) pa_nil)) pe_int)))))
      , ?_⟩
    refine q_asg (v := .int (hash1 a i)) (ev_mod (ev_cb (vs := [.int (a * 1140671 + 27644437 * i * i + 131 * i + 19)]) (ea_cons (ev_add (ev_add (ev_add (ev_prod (ev_var rfl) ev_c (.inl ⟨by omega, by omega⟩) rfl) (ev_prod (ev_prod ev_c (ev_var rfl) (.inr ⟨by omega, by omega⟩) rfl) (ev_var rfl) (.inr ⟨by omega, by omega⟩) rfl) rfl) (ev_prod ev_c (ev_var rfl) (.inr ⟨by omega, by omega⟩) rfl) rfl) ev_c rfl) ea_nil) fun H1 _ Q q => .inl ⟨_, rfl, q H1 (Ex.refl H1)⟩) ev_c (by omega) rfl) fun H1 e1 => ?_
    refine q_asg (v := .int (hash2 (hash1 a i) i)) (ev_mod (ev_cb (vs := [.int (hash1 a i * hash1 a i + 62089 * i + 32416187)]) (ea_cons (ev_add (ev_add (ev_prod (ev_var rfl) (ev_var rfl) (.inl ⟨by omega, by omega⟩) rfl) (ev_prod ev_c (ev_var rfl) (.inr ⟨by omega, by omega⟩) rfl) rfl) ev_c rfl) ea_nil) fun H1 _ Q q => .inl ⟨_, rfl, q H1 (Ex.refl H1)⟩) ev_c (by omega) rfl) fun H2 e2 => ?_
    exact s_ret (v := .int (hashF a i)) (ev_mod (ev_cb (vs := [.int (hash2 (hash1 a i) i * 48271)]) (ea_cons (ev_prod (ev_var rfl) ev_c (.inl ⟨by omega, by omega⟩) rfl) ea_nil) fun H1 _ Q q => .inl ⟨_, rfl, q H1 (Ex.refl H1)⟩) ev_c (by omega) rfl) fun H3 e3 => q H3 ((e1.trans e2).trans e3)
theorem ok_random (D : Dfn K mg "_law_random" s_random p_random) (B : Bt mg) (c_hash : Cal P w K mg base "_law_hash" p_hash 1 sp_hash) : Cal P w K mg base "_law_random" p_random 2 sp_random := by
  refine D.cal sc_random (fun vs H Q E h => ?_) (fun f cdv A outer s H vs Q E hr h => ?_)
  · obtain ⟨g, b, c, rfl, _⟩ := h
    rfl
  · obtain ⟨g, b, c, rfl, b1, b2, ⟨x, y, i, hg, y1, y2, i1, i2⟩, hc, q⟩ := h
    have nd := sc_random.nd
    refine ⟨_, (pss_cons (ps_if (pt_cmpR op_gt (pe_ix (r := rIxL K) ix_list (pv 0) pe_int (fun _ _ => rfl)) pe_int (nomark _))
        (pss_cons (ps_set (i := 2) nd rfl (Or.inl rfl) (pe_op op_mod (pe_callTy call_int1 (by rfl) B.n_int (by decide +kernel) (pa_cons (pe_ix (r := rIxL K) ix_list (pv 0) pe_int (fun _ _ => rfl)) pa_nil)) (pv 1)))
        (pss_cons (ps_asg (pe_op op_fdiv (pe_ix (r := rIxL K) ix_list (pv 0) pe_int (fun _ _ => rfl)) (pv 1)) (pg_sub (pv 0) pe_int set_list))
        (pss_one (ps_ret (pv 2)))))
        pss_nil)
      (pss_cons (ps_set (i := 2) nd rfl (Or.inl rfl) pe_int)
      (pss_cons (ps_for PassesOwn.never rfl (pi_range1 (by rfl) B.n_range (pa_cons (pe_op op_add pe_int (pe_op op_fdiv (pe_bits (pv 1)) pe_int)) pa_nil)) (pg_name (i := 3) nd rfl (Or.inl rfl))
        (pss_cons (ps_asg (pe_op op_add (pe_ix (r := rIxL K) ix_list (pv 0) pe_int (fun _ _ => rfl)) pe_int) (pg_sub (pv 0) pe_int set_list))
        (pss_one (ps_set (i := 2) nd rfl (Or.inl rfl) (pe_op op_add (pe_op op_mul (pv 2) pe_int) (pe_cal c_hash (hr.mono (by decide)) (by rfl) (pa_cons (pe_ix (r := rIxL K) ix_list (pv 0) pe_int (fun _ _ => rfl)) (pa_cons (pe_ix (r := rIxL K) ix_list (pv 0) pe_int (fun _ _ => rfl)) pa_nil))))))))
      (pss_one (ps_ret (pe_op op_mod (pe_callTy call_int1 (by rfl) B.n_int (by decide +kernel) (pa_cons (pv 2) pa_nil)) (pv 1)))))))
      , ?_⟩
    have t0 : ∀ H1 σ', Ex H H1 → σ'[0]? = some (some (V.ref g)) → Ev (tOp (rIxL K) (tVar 0) (tC (.int 0))) σ' H1 (.int x) := fun H1 σ' e1 h => ev_ixL (i := 0) (ev_var h) ev_c (e1 _ _ hg) rfl
    refine q_when (et_test (ev_op (t0 H _ (Ex.refl H) rfl) ev_c rv_I0)) (fun hb1 H1 e1 => ?_) (fun hb1 H1 e1 => ?_)
    · have hr0 : 0 ≤ x % (b : Int) := Int.emod_nonneg _ (by omega)
      have hr1 : x % (b : Int) < (b : Int) := Int.emod_lt_of_pos _ (by omega)
      refine q_asg (v := .int (((x % (b : Int)).toNat : Nat) : Int)) (ev_int (ev_mod (ev_cb (vs := [.int x]) (ea_cons (t0 H1 _ e1 rfl) ea_nil) fun H1 _ Q q => .inl ⟨_, rfl, q H1 (Ex.refl H1)⟩) (ev_var rfl) (by omega) rfl) (Int.toNat_of_nonneg hr0).symm) fun H2 e2 => ?_
      refine q_setL (j := 0) ((e1.trans e2) _ _ hg) (ev_div (t0 H2 _ (e1.trans e2) rfl) (ev_var rfl) ⟨by omega, by omega⟩ rfl) (ev_var rfl) ev_c (Nat.zero_lt_succ _) fun H3 e3 => ?_
      refine s_ret (ev_var rfl) fun H4 e4 => q _ H4 (by omega) ((ExG.mut (.of ((e1.trans e2).trans e3))).ex e4) (Gen.ex ⟨_, y, i, upd_same, y1, y2, i1, by omega⟩ e4)
    · refine q_asg (v := .int 0) ev_c fun H2 e2 => ?_
      have hbits : Builtin.Int.intBits (b : Int) / 30 = 0 := by
        have h7 : Nat.log2 b < 7 := (Nat.log2_lt (by omega)).mpr (by omega)
        unfold Builtin.Int.intBits
        rw [if_neg (by simp; omega), Int.natAbs_natCast]
        omega
      have tb1 : Ev (tBits (tVar 1)) [some (.ref g), some (.int (b : Int)), some (.int 0), none] H2 (.int (Builtin.Int.intBits (b : Int) : Nat)) := fun H3 e3 Q q => ⟨_, rfl, (b : Int), rfl, q H3 (Ex.refl H3)⟩
      have E2 : Ex H H2 := e1.trans e2
      refine q_forW (n := 1) (ei_rng1 (n := 1) (ev_add ev_c (ev_div tb1 ev_c ⟨by omega, by omega⟩ rfl) (by omega)) (by decide)) walk_range (fun k σ' H' => ∃ (d : Int) (y3 : Option V), σ' = [some (.ref g), some (.int (b : Int)), some (.int d), y3] ∧ ExG g H H' ∧ 0 ≤ d ∧ (k = 0 → d = 0 ∧ H' g = some (.lst [.int x, .int y, .int i])) ∧ (k = 1 → Gen g (c + 1) H')) (fun H3 e3 _ => ⟨0, _, rfl, .of (E2.trans e3), by omega, fun _ => ⟨rfl, (E2.trans e3) _ _ hg⟩, fun z => by cases z⟩) (fun _ _ _ _ _ => trivial) (fun k x2 σ' H3 H4 hk hW hy => ?_) (fun σ' H' hW => ?_)
      · obtain ⟨d, y3, rfl, e3, d0, h0, _⟩ := hW
        obtain ⟨rfl, rfl⟩ := hy
        have hk0 : k = 0 := by omega
        subst hk0
        obtain ⟨rfl, hg4⟩ := h0 rfl
        refine q_setL (j := 2) hg4 (ev_add (ev_ixL (i := 2) (ev_var rfl) ev_c hg4 rfl) ev_c rfl) (ev_var rfl) ev_c (Nat.lt_succ_self _) fun H5 e5 => ?_
        have hg5 : (upd H5 g (.lst ([V.int x, V.int y, V.int i].set 2 (.int (i + 1))))) g = some (.lst [.int x, .int y, .int (i + 1)]) := upd_same
        refine s_asg (v := .int (hashF y (i + 1))) (ev_add (a := 0) (b := hashF y (i + 1)) (ev_prod (ev_var rfl) ev_c (.inr ⟨by omega, by omega⟩) rfl) (ev_call (vs := [.int y, .int (i + 1)]) (ea_cons (ev_ixL (i := 1) (ev_var rfl) ev_c hg5 rfl) (ea_cons (ev_ixL (i := 2) (ev_var rfl) ev_c hg5 rfl) ea_nil)) (SpV.of fun H6 _ Q E q => ⟨y, i + 1, rfl, y1, y2, by omega, by omega, q⟩)) (by omega)) fun H6 e6 => ⟨hashF y (i + 1), _, rfl, (ExG.mut (e3.ex e5)).ex e6, Int.emod_nonneg _ (by omega), (fun z => absurd z (by omega)), fun _ => Gen.ex ⟨x, y, i + 1, hg5, y1, y2, by omega, by omega⟩ e6⟩
      · obtain ⟨d, y3, rfl, e3, d0, _, h1⟩ := hW
        have hg1 := h1 rfl
        have hr0 : 0 ≤ d % (b : Int) := Int.emod_nonneg _ (by omega)
        have hr1 : d % (b : Int) < (b : Int) := Int.emod_lt_of_pos _ (by omega)
        exact s_ret (v := .int (((d % (b : Int)).toNat : Nat) : Int)) (ev_int (ev_mod (ev_cb (vs := [.int d]) (ea_cons (ev_var rfl) ea_nil) fun H1 _ Q q => .inl ⟨_, rfl, q H1 (Ex.refl H1)⟩) (ev_var rfl) (by omega) rfl) (Int.toNat_of_nonneg hr0).symm) fun H4 e4 => q _ H4 (by omega) (e3.ex e4) (hg1.ex e4)
theorem ok_cell (D : Dfn K mg "_law_cell" s_cell p_cell) (B : Bt mg) : Cal P w K mg base "_law_cell" p_cell 1 (sp_cell K) := by
  refine D.cal sc_cell (fun vs H Q E h => ?_) (fun f cdv A outer s H vs Q E hr h => ?_)
  · obtain ⟨a, ns, k, rfl, _⟩ := h
    rfl
  · obtain ⟨a, ns, k, rfl, ha, hl, q⟩ := h
    have nd := sc_cell.nd
    refine ⟨_, (pss_cons (ps_if (pt_cmpR op_lt (pv 1) (pe_callB (r := Evl.rLenS K) call_len_seq (by rfl) B.n_len (by decide +kernel) (pa_cons (pv 0) pa_nil)) (nomark _))
        (pss_one (ps_ret (pe_ix (r := rIxL K) ix_list (pv 0) (pv 1) (fun _ _ => rfl))))
        pss_nil)
      (pss_one (ps_ret (pe_op op_mod (pe_callB (cr_sum rfl) (by rfl) B.n_sum (by decide +kernel) (pa_cons (pe_slice sl_list (pv 0) po_none (po_some pe_int)) pa_nil)) pe_int))))
      , ?_⟩
    refine q_when (et_test (ev_op (ev_var rfl) (ev_len (ev_var rfl) ha) rv_I0)) (fun hb1 H1 e1 => ?_) (fun hb1 H1 e1 => ?_)
    · rw [List.length_map] at hb1
      have hk : k < ns.length := by
        have := of_decide_eq_true hb1
        omega
      have hx : (ns.map V.int)[k]? = some (.int ns[k]) := by
        rw [List.getElem?_map, List.getElem?_eq_getElem hk]
        rfl
      exact s_ret (ev_op (ev_var rfl) (ev_var rfl) (rv_ixL (ex_l e1 ha) (atI_nat hx))) fun H2 e2 => q _ H2 (e1.trans e2)
    · have t1 : EvL (tSl (rSlL K) (tVar 0) tNoPart (tPart (tC (.int 1)))) [some (.ref a), some (.int (k : Int))] H1 ((ns.take 1).map V.int) := by
        have g := el_sl (K := K) (lo := none) (ev_var (σ := [some (.ref a), some (.int (k : Int))]) (i := 0) rfl) eo_none (eo_some (i := 1) ev_c) (ex_l e1 ha)
        have e : cutV (ns.map V.int) none (some 1) = (ns.map V.int).take 1 := cut_hi _ 1
        rw [e, ← List.map_take] at g
        exact g
      have t2 : Ev (tCB (rSum K) (tCons (tSl (rSlL K) (tVar 0) tNoPart (tPart (tC (.int 1)))) tNil)) [some (.ref a), some (.int (k : Int))] H1 (.int (ns.take 1).sum) := fun H2 e2 Q q => t1 H2 e2 _ fun p H3 _ e3 hp => ⟨p, ns.take 1, rfl, sq_of hp, q H3 e3⟩
      exact s_ret (ev_mod t2 ev_c (by omega) rfl) fun H2 e2 => q _ H2 (e1.trans e2)
theorem ok_generator (D : Dfn K mg "_law_generator" s_generator p_generator) (B : Bt mg) (c_cell : Cal P w K mg base "_law_cell" p_cell 1 (sp_cell K)) : Cal P w K mg base "_law_generator" p_generator 2 (sp_generator K) := by
  refine D.cal sc_generator (fun vs H Q E h => ?_) (fun f cdv A outer s H vs Q E hr h => ?_)
  · obtain ⟨a, ns, k, rfl, _⟩ := h
    rfl
  · obtain ⟨a, ns, k, rfl, ha, hl, hk, q⟩ := h
    have nd := sc_generator.nd
    refine ⟨_, (pss_cons (ps_set (i := 2) nd rfl (Or.inl rfl) (pe_cal c_cell (hr.mono (by decide)) (by rfl) (pa_cons (pv 0) (pa_cons (pv 1) pa_nil))))
      (pss_one (ps_ret (pe_lst (pa_cons (pe_op op_mod (pe_callTy call_int1 (by rfl) B.n_int (by decide +kernel) (pa_cons (pe_callB (call_max2 rfl) (by rfl) B.n_max (by decide +kernel) (pa_cons (pe_op op_sub (pv 2) (pe_op op_powB pe_int pe_int)) (pa_cons pe_int pa_nil))) pa_nil)) (pe_op op_powB (pe_op op_powB pe_int pe_int) pe_int)) (pa_cons (pe_op op_mod (pe_callTy call_int1 (by rfl) B.n_int (by decide +kernel) (pa_cons (pv 2) pa_nil)) pe_int) (pa_cons (pe_op op_mul pe_int (pv 1)) pa_nil)))))))
      , ?_⟩
    refine q_call (vs := [.ref a, .int (k : Int)]) (ea_cons (ev_var rfl) (ea_cons (ev_var rfl) ea_nil)) fun H2 e2 => ⟨a, ns, k, rfl, ex_l e2 ha, hl, fun z H3 e3 => ?_⟩
    have E3 : Ex H H3 := e2.trans e3
    have p60 : 0 ≤ (60 : Int) ∧ (Builtin.Int.intBits 10 : Int) * 60 ≤ 2 ^ 27 := by decide +kernel
    have p10 : 0 ≤ (10 : Int) ∧ (Builtin.Int.intBits (10 ^ (60 : Int).toNat) : Int) * 10 ≤ 2 ^ 27 := by decide +kernel
    have p18 : 0 ≤ (18 : Int) ∧ (Builtin.Int.intBits 10 : Int) * 18 ≤ 2 ^ 27 := by decide +kernel
    have pp : (0 : Int) < (10 ^ (60 : Int).toNat) ^ (10 : Int).toNat := by decide +kernel
    generalize hM : ((10 : Int) ^ (60 : Int).toNat) ^ (10 : Int).toNat = M at pp
    have t1 : ∀ H4, Ev (tOp (rI (fun i j => 0 ≤ j ∧ (Builtin.Int.intBits i : Int) * j ≤ 2 ^ 27) fun i j => V.int (i ^ j.toNat)) (tOp (rI (fun i j => 0 ≤ j ∧ (Builtin.Int.intBits i : Int) * j ≤ 2 ^ 27) fun i j => V.int (i ^ j.toNat)) (tC (V.int 10)) (tC (V.int 60))) (tC (V.int 10))) [some (.ref a), some (.int (k : Int)), some (.int z)] H4 (.int M) := fun H4 => by
      rw [← hM]
      exact ev_op (ev_op ev_c ev_c (rv_I p60)) ev_c (rv_I p10)
    refine s_retL (el_lst (ea_cons (ev_mod (ev_cb (vs := [.int _]) (ea_cons (ev_cb (vs := [.int (z - 10 ^ (18 : Int).toNat), .int 0]) (ea_cons (ev_dif (ev_var rfl) (ev_op ev_c ev_c (rv_I p18)) rfl) (ea_cons ev_c ea_nil)) fun H1 _ Q q => ⟨_, _, rfl, q H1 (Ex.refl H1)⟩) ea_nil) fun H1 _ Q q => .inl ⟨_, rfl, q H1 (Ex.refl H1)⟩) (t1 H3) pp rfl)
      (ea_cons (ev_mod (ev_cb (vs := [.int z]) (ea_cons (ev_var rfl) ea_nil) fun H1 _ Q q => .inl ⟨_, rfl, q H1 (Ex.refl H1)⟩) ev_c (by omega) rfl) (ea_cons (ev_prod ev_c (ev_var rfl) (.inl ⟨by omega, by omega⟩) rfl) ea_nil))) (by simp)) fun p H4 np e4 hp => q p H4 (fresh_back E3 np) (E3.trans e4) ⟨_, _, _, hp, Int.emod_nonneg _ (by omega), Int.emod_lt_of_pos _ (by omega), by omega, by omega⟩
theorem ok_program (D : Dfn K mg "_law_program" s_program p_program) (B : Bt mg) (c_random : Cal P w K mg base "_law_random" p_random 2 sp_random) : Cal P w K mg base "_law_program" p_program 3 sp_program := by
  refine D.cal sc_program (fun vs H Q E h => ?_) (fun f cdv A outer s H vs Q E hr h => ?_)
  · obtain ⟨g, n, m, c, rfl, _⟩ := h
    rfl
  · obtain ⟨g, n, m, c, rfl, hn, hm, hg, hc, q⟩ := h
    have nd := sc_program.nd
    refine ⟨_, (pss_one (ps_ret (pe_ifExp (pt_cmpR op_gt (pv 1) pe_int (nomark _)) (pe_lc (own := [("_law_turn_here", 3)]) (g := gName 3) (tt := tYes) rfl nd (pi_range1 (by rfl) B.n_range (pa_cons (pv 2) pa_nil)) (blkOk_by (own := [("_law_turn_here", 3)]) (N := N_program) (sc := defScope s_program) (by decide +kernel)) (fun _ _ _ _ _ => (pg_name (i := 3) nd rfl (Or.inl rfl))) (fun _ _ _ _ _ => pts_nil) (fun _ _ _ _ _ => (pe_cal c_random (hr.mono (by decide)) (by rfl) (pa_cons (pv 0) (pa_cons (pv 1) pa_nil))))) (pe_lst pa_nil))))
      , ?_⟩
    refine (show EvT (tTest (tOp (rI0 fun i j => V.bl (decide (j < i))) (tVar 1) (tC (V.int 0)))) (start N_program [.ref g, .int (n : Int), .int (m : Int)]) H (decide ((0 : Int) < (n : Int))) from et_test (ev_op (ev_var rfl) ev_c rv_I0)) H (Ex.refl H) _ fun H1 e1 => ?_
    by_cases hn0 : (0 : Int) < (n : Int)
    · rw [decide_eq_true hn0]
      refine iteT ?_
      refine (ei_rng1 (te := tVar 2) (σ := start N_program [.ref g, .int (n : Int), .int (m : Int)]) (H := H1) (n := m) (ev_var rfl) (by omega)) H1 (Ex.refl H1) _ fun H2 e2 _ D hD => ?_
      refine lc_range (lo := 0) (n := m) (fun i H' => ∃ xs, H' D = some (.lst (iv xs)) ∧ xs.length = i ∧ (∀ x ∈ xs, x < n) ∧ ExG g H H' ∧ Gen g (c + i) H') ⟨[], upd_same, rfl, fun _ h => absurd h List.not_mem_nil, .of ((e1.trans e2).trans (Ex.new hD)), hg.ex ((e1.trans e2).trans (Ex.new hD))⟩ (fun i H' hi p => ?_) (fun H' p => ?_)
      · obtain ⟨xs, h1, h2, h3, h4, h5⟩ := p
        have hDg : D ≠ g := (hg.ex (e1.trans e2)).ne hD
        have hDH : H D = none := fresh_back (e1.trans e2) hD
        refine ⟨rfl, ?_⟩
        dsimp only [tYes]
        rw [if_pos rfl]
        refine er_call (c := c + i) (b := n) (ev_var rfl) (ev_var rfl) (by omega) hn h5 (by omega) H' (Ex.refl H') _ fun r H4 hr e4 g4 => ⟨iv xs, e4 _ _ hDg h1, sz_lt (by rw [iv_len]; omega), xs ++ [r], ?_, by simp [h2], fun x hx => ?_, (h4.trans e4).new hDH, ?_⟩
        · rw [upd_same, iv_app]
          rfl
        · rcases List.mem_append.mp hx with z | z
          · exact h3 x z
          · rw [List.mem_singleton.mp z]
            exact hr
        · obtain ⟨a, b, j, k1, k2⟩ := g4
          exact ⟨a, b, j, by rw [upd_ne (Ne.symm hDg)]; exact k1, k2⟩
      · obtain ⟨xs, h1, h2, h3, h4, h5⟩ := p
        exact q D xs H' (fresh_back (e1.trans e2) hD) h4 h5 h1 (by omega) h3
    · rw [decide_eq_false hn0]
      refine iteF ?_
      exact (el_nil (σ := start N_program [.ref g, .int (n : Int), .int (m : Int)]) (H := H1)) H1 (Ex.refl H1) _ fun p H2 np e2 hp => q p [] H2 (fresh_back e1 np) (.of (e1.trans e2)) ((hg.ex (e1.trans e2)).mono (by omega)) hp (Nat.zero_le _) fun _ h => absurd h List.not_mem_nil
theorem ok_two (D : Dfn K mg "_law_two" s_two p_two) (B : Bt mg) (c_random : Cal P w K mg base "_law_random" p_random 2 sp_random) (c_program : Cal P w K mg base "_law_program" p_program 3 sp_program) : Cal P w K mg base "_law_two" p_two 4 sp_two := by
  refine D.cal sc_two (fun vs H Q E h => ?_) (fun f cdv A outer s H vs Q E hr h => ?_)
  · obtain ⟨g, n, c, rfl, _⟩ := h
    rfl
  · obtain ⟨g, n, c, rfl, hn, hg, hc, q⟩ := h
    have nd := sc_two.nd
    refine ⟨_, (pss_cons (ps_set (i := 2) nd rfl (Or.inl rfl) (pe_cal c_program (hr.mono (by decide)) (by rfl) (pa_cons (pv 0) (pa_cons (pv 1) (pa_cons (pe_cal c_random (hr.mono (by decide)) (by rfl) (pa_cons (pv 0) (pa_cons pe_int pa_nil))) pa_nil)))))
      (pss_cons (ps_set (i := 3) nd rfl (Or.inl rfl) (pe_cal c_random (hr.mono (by decide)) (by rfl) (pa_cons (pv 0) (pa_cons pe_int pa_nil))))
      (pss_cons (ps_if (pt_cmpR op_eq (pv 3) pe_int (nomark _))
        (pss_one (ps_ret (pe_tup (pa_cons (pv 2) (pa_cons (pe_back (pv 2)) pa_nil)))))
        pss_nil)
      (pss_cons (ps_if (PW.pt (pw_and (pt_cmpR op_eq (pv 3) pe_int (nomark _)) (pw_and1 (pt_cmpR op_gt (pv 1) pe_int (nomark _)))))
        (pss_cons (ps_set (i := 4) nd rfl (Or.inl rfl) (pe_cal c_random (hr.mono (by decide)) (by rfl) (pa_cons (pv 0) (pa_cons (pv 1) pa_nil))))
        (pss_one (ps_ret (pe_tup (pa_cons (pv 2) (pa_cons (pe_op op_cat (pv 2) (pe_lst (pa_cons (pv 4) (pa_cons (pe_op op_sub (pe_op op_sub (pv 1) pe_int) (pv 4)) pa_nil)))) pa_nil))))))
        pss_nil)
      (pss_cons (ps_if (PW.pt (pw_and (pt_cmpR op_eq (pv 3) pe_int (nomark _)) (pw_and1 (pt_chain op_lt op_lt pe_int (pv 1) pe_int))))
        (pss_cons (ps_set (i := 4) nd rfl (Or.inl rfl) (pe_cal c_random (hr.mono (by decide)) (by rfl) (pa_cons (pv 0) (pa_cons (pv 1) pa_nil))))
        (pss_one (ps_ret (pe_tup (pa_cons (pv 2) (pa_cons (pe_op op_cat (pe_op op_rep (pe_lst (pa_cons (pv 4) pa_nil)) (pe_op op_mul (pe_op op_add (pv 1) pe_int) (pv 1))) (pv 2)) pa_nil))))))
        pss_nil)
      (pss_one (ps_ret (pe_tup (pa_cons (pv 2) (pa_cons (pe_cal c_program (hr.mono (by decide)) (by rfl) (pa_cons (pv 0) (pa_cons (pv 1) (pa_cons (pe_cal c_random (hr.mono (by decide)) (by rfl) (pa_cons (pv 0) (pa_cons pe_int pa_nil))) pa_nil)))) pa_nil))))))))))
      , ?_⟩
    refine q_prog (ep_call (b := 7) (ev_var rfl) (ev_var rfl) (by omega) (er_call (b := 7) (ev_var rfl) ev_c (by omega) (by omega) hg (by omega)) (by omega) (by omega)) fun p xs H1 np e1 g1 hp hxl hx => ?_
    refine q_draw (er_call (b := 4) (ev_var rfl) ev_c (by omega) (by omega) g1 (by omega)) fun way H2 hway e2 g2 => ?_
    have npg : p ≠ g := hg.ne np
    have hp2 := e2 _ _ npg hp
    have E2 : ExG g H H2 := e1.trans e2
    refine q_when (et_test (ev_intEq (ev_var rfl) ev_c)) (fun hb3 H3 e3 => ?_) (fun hb3 H3 e3 => ?_)
    · refine s_retTup (ev_var rfl) (el_back (ev_var rfl) (e3 _ _ hp2)) fun T r H4 nT nr e4 hT hr4 => q T p r xs xs.reverse H4 (fresh_backG (g2.ex e3) (E2.ex e3) nT) np (fresh_backG (g2.ex e3) (E2.ex e3) nr) ((E2.ex e3).ex e4) (((g2.ex e3).ex e4).mono (by omega)) hT ((e3.trans e4) _ _ hp2) ?_ (by omega) (by rw [List.length_reverse]; omega) hx fun x hm => hx x (List.mem_reverse.mp hm)
      rw [hr4]
      unfold iv
      rw [List.map_reverse]
    · have hp3 := e3 _ _ hp2
      have E3 := E2.ex e3
      have g3 := g2.ex e3
      refine q_when (et_and (et_test (ev_intEq (ev_var rfl) ev_c)) fun _ => et_test (ev_op (ev_var rfl) ev_c rv_I0)) (fun hb4 H4 e4 => ?_) (fun hb4 H4 e4 => ?_)
      · rw [Bool.and_eq_true] at hb4
        have hn0 : 0 < n := by
          have := of_decide_eq_true hb4.2
          omega
        refine q_draw (er_call (b := n) (ev_var rfl) (ev_var rfl) (by omega) (by omega) (g3.ex e4) (by omega)) fun r H5 hr5 e5 g5 => ?_
        have hp5 := e5 _ _ npg (e4 _ _ hp3)
        have E5 := (E3.ex e4).trans e5
        refine s_retTup (ys := iv (xs ++ [r, n - 1 - r])) (ev_var rfl) (el_is (el_cat1 (ev_var rfl) hp5 (el_lst (vs := [ni r, ni (n - 1 - r)]) (ea_cons (ev_var rfl) (ea_cons (ev_dif (ev_dif (ev_var rfl) ev_c rfl) (ev_var rfl) (show (n : Int) - 1 - (r : Int) = ((n - 1 - r : Nat) : Int) by omega)) ea_nil)) (by simp)) ?_) (show iv xs ++ [ni r, ni (n - 1 - r)] = iv (xs ++ [r, n - 1 - r]) from (iv_app xs [r, n - 1 - r]).symm)) fun T u H6 nT nu e6 hT hu6 => q T p u xs _ H6 (fresh_backG g5 E5 nT) np (fresh_backG g5 E5 nu) (E5.ex e6) ((g5.ex e6).mono (by omega)) hT (e6 _ _ hp5) hu6 (by omega) ?_ hx fun x hm => ?_
        · rw [iv_len]
          simp
          omega
        · simp
          omega
        · rcases List.mem_append.mp hm with z | z
          · exact hx x z
          · simp only [List.mem_cons, List.not_mem_nil, or_false] at z
            omega
      · have hp4 := e4 _ _ hp3
        have E4 := E3.ex e4
        have g4 := g3.ex e4
        refine q_when (et_and (et_test (ev_intEq (ev_var rfl) ev_c)) fun _ => et_test (ev_chain ev_c (ev_var rfl) ev_c)) (fun hb5 H5 e5 => ?_) (fun hb5 H5 e5 => ?_)
        · rw [Bool.and_eq_true, Bool.and_eq_true] at hb5
          have hn0 : 0 < n := by
            have := of_decide_eq_true hb5.2.1
            omega
          have hn1 : n < 30 := by
            have := of_decide_eq_true hb5.2.2
            omega
          refine q_draw (er_call (b := n) (ev_var rfl) (ev_var rfl) (by omega) (by omega) (g4.ex e5) (by omega)) fun r H6 hr6 e6 g6 => ?_
          have hp6 := e6 _ _ npg (e5 _ _ hp4)
          have E6 := (E4.ex e5).trans e6
          have hbig : (n + 1) * n ≤ 30 * 30 := Nat.mul_le_mul (by omega) (by omega)
          have hrep : (List.replicate ((n + 1) * n) [V.int (r : Int)]).flatten = iv (List.replicate ((n + 1) * n) r) := by
            generalize (n + 1) * n = k
            induction k with
            | zero => rfl
            | succ k ih =>
              rw [List.replicate_succ, List.flatten_cons, ih, List.replicate_succ]
              rfl
          refine s_retTup (ys := iv (List.replicate ((n + 1) * n) r ++ xs)) (ev_var rfl) (el_is (el_cat2 (el_rep (n := (n + 1) * n) (el_one (ev_var rfl)) (ev_prod (ev_add (ev_var rfl) ev_c rfl) (ev_var rfl) (.inr ⟨by omega, by omega⟩) (Int.natCast_mul _ _).symm) (by simp) (by omega)) (ev_var rfl) hp6 ?_) ?_) fun T u H7 nT nu e7 hT hu7 => q T p u xs _ H7 (fresh_backG g6 E6 nT) np (fresh_backG g6 E6 nu) (E6.ex e7) ((g6.ex e7).mono (by omega)) hT (e7 _ _ hp6) hu7 (by omega) ?_ hx fun x hm => ?_
          · rw [hrep, iv_len, iv_len, List.length_replicate]
            omega
          · rw [hrep, iv_app]
          · rw [List.length_append, List.length_replicate]
            omega
          · rcases List.mem_append.mp hm with z | z
            · rw [List.eq_of_mem_replicate z]
              exact hr6
            · exact hx x z
        · have hp5 := e5 _ _ hp4
          have E5 := E4.ex e5
          have g5 := g4.ex e5
          refine s_retTupP (ev_var rfl) (fun H6 e6 => ep_call (b := 7) (n := n) (c := c + 11 + 1) (ev_var rfl) (ev_var rfl) (by omega) (er_call (b := 7) (ev_var rfl) ev_c (by omega) (by omega) (g5.ex e6) (by omega)) (by omega) (by omega)) fun T u ys H6 H7 e6 nu e7 g7 hu hyl hy nT => ?_
          have E7 := (E5.ex e6).trans e7
          exact q T p u xs ys _ (fresh_backG g7 E7 nT) np (fresh_backG (g5.ex e6) (E5.ex e6) nu) (E7.ex (Ex.new nT)) ((g7.ex (Ex.new nT)).mono (by omega)) upd_same (Ex.new nT _ _ (e7 _ _ npg (e6 _ _ hp5))) (Ex.new nT _ _ hu) (by omega) (by omega) hx hy
end
end K74
/-! the mathematics: words as joints and pieces -/
namespace K74
/-! ### joints and pieces put together -/
def inter : List Nat → List (List Nat) → List Nat
  | [], [] => []
  | [], p :: _ => p
  | _ :: _, [] => []
  | j :: f, p :: ps => p ++ j :: inter f ps
/-- the pieces turned -/
def rot (ps : List (List Nat)) (k : Nat) : List (List Nat) := (List.range ps.length).map fun i => ps.getD ((i + k) % ps.length) []
theorem inter_append : ∀ (f1 : List Nat) (p1 : List (List Nat)) (j : Nat) (f2 : List Nat) (p2 : List (List Nat)), p1.length = f1.length + 1 → inter (f1 ++ j :: f2) (p1 ++ p2) = inter f1 p1 ++ j :: inter f2 p2
  | [], [p], j, f2, p2, _ => rfl
  | [], [], _, _, _, h => by cases h
  | [], _ :: _ :: _, _, _, _, h => by simp at h
  | x :: f1, [], _, _, _, h => by simp at h
  | x :: f1, p :: p1, j, f2, p2, h => by
    have ih := inter_append f1 p1 j f2 p2 (by simpa using h)
    show p ++ x :: inter (f1 ++ j :: f2) (p1 ++ p2) = (p ++ x :: inter f1 p1) ++ j :: inter f2 p2
    rw [ih]
    simp
/-- joints all in J, pieces without J's letters, one more -/
structure Parted (J f : List Nat) (ps : List (List Nat)) : Prop where
  len : ps.length = f.length + 1
  inJ : ∀ c ∈ f, c ∈ J
  noJ : ∀ p ∈ ps, ∀ c ∈ p, c ∉ J
theorem partsSt_ok (J : List Nat) : ∀ (w : List Nat), inter (partsSt J w).1 ((partsSt J w).2.1 ++ [(partsSt J w).2.2]) = w ∧ (∀ c ∈ (partsSt J w).1, c ∈ J) ∧ (∀ p ∈ (partsSt J w).2.1 ++ [(partsSt J w).2.2], ∀ c ∈ p, c ∉ J) := fun w => by
  suffices h : ∀ (n : Nat) (w : List Nat), w.length = n → inter (partsSt J w).1 ((partsSt J w).2.1 ++ [(partsSt J w).2.2]) = w ∧ (∀ c ∈ (partsSt J w).1, c ∈ J) ∧ (∀ p ∈ (partsSt J w).2.1 ++ [(partsSt J w).2.2], ∀ c ∈ p, c ∉ J) from h w.length w rfl
  intro n
  induction n with
  | zero =>
    intro w hw
    rw [List.length_eq_zero_iff.mp hw]
    refine ⟨rfl, fun c h => absurd h List.not_mem_nil, fun p hp c hc => ?_⟩
    rw [List.mem_singleton.mp hp] at hc
    exact absurd hc List.not_mem_nil
  | succ n ih =>
    intro w hw
    obtain ⟨v, c, rfl⟩ : ∃ v c, w = v ++ [c] := by
      have hne : w ≠ [] := fun z => by
        rw [z] at hw
        cases hw
      exact ⟨w.dropLast, w.getLast hne, (List.dropLast_concat_getLast hne).symm⟩
    rw [List.length_append, List.length_singleton] at hw
    obtain ⟨h1, h2, h3⟩ := ih v (by omega)
    have hl := (parts_len J v).1
    rw [partsSt_snoc]
    generalize partsSt J v = st at h1 h2 h3 hl
    unfold pstep
    by_cases h : c ∈ J
    · rw [if_pos h]
      refine ⟨?_, fun x hx => ?_, fun p hp x hx => ?_⟩
      · show inter (st.1 ++ [c]) ((st.2.1 ++ [st.2.2]) ++ [[]]) = v ++ [c]
        rw [inter_append st.1 (st.2.1 ++ [st.2.2]) c [] [[]] (by rw [List.length_append, List.length_singleton, hl]), h1]
        rfl
      · rcases List.mem_append.mp hx with z | z
        · exact h2 x z
        · rw [List.mem_singleton.mp z]
          exact h
      · rcases List.mem_append.mp hp with z | z
        · exact h3 p z x hx
        · rw [List.mem_singleton.mp z] at hx
          exact absurd hx List.not_mem_nil
    · rw [if_neg h]
      refine ⟨?_, h2, fun p hp x hx => ?_⟩
      · show inter st.1 (st.2.1 ++ [st.2.2 ++ [c]]) = v ++ [c]
        have key : ∀ (f : List Nat) (ps : List (List Nat)) (q : List Nat), f.length = ps.length → inter f (ps ++ [q ++ [c]]) = inter f (ps ++ [q]) ++ [c] := by
          intro f
          induction f with
          | nil =>
            intro ps q e
            have : ps = [] := List.length_eq_zero_iff.mp e.symm
            subst this
            rfl
          | cons x f ihf =>
            intro ps q e
            cases ps with
            | nil => simp at e
            | cons p ps =>
              show p ++ x :: inter f (ps ++ [q ++ [c]]) = (p ++ x :: inter f (ps ++ [q])) ++ [c]
              rw [ihf ps q (by simpa using e)]
              simp
        rw [key _ _ _ hl, h1]
      · rcases List.mem_append.mp hp with z | z
        · exact h3 p (List.mem_append.mpr (.inl z)) x hx
        · rw [List.mem_singleton.mp z] at hx
          rcases List.mem_append.mp hx with y | y
          · exact h3 _ (List.mem_append.mpr (.inr (List.mem_singleton.mpr rfl))) x y
          · rw [List.mem_singleton.mp y]
            exact h
theorem parted (J w : List Nat) : Parted J (found J w) (pieces J w) := ⟨pieces_len J w, (partsSt_ok J w).2.1, (partsSt_ok J w).2.2⟩
theorem unparted (J w : List Nat) : inter (found J w) (pieces J w) = w := (partsSt_ok J w).1
/-- the parts of a word are told by the word -/
theorem inter_inj {J : List Nat} : ∀ {f : List Nat} {ps : List (List Nat)} {f' : List Nat} {ps' : List (List Nat)}, Parted J f ps → Parted J f' ps' → inter f ps = inter f' ps' → f = f' ∧ ps = ps' := by
  -- by the first piece: its letters, one by one
  have first : ∀ (p p' : List Nat) (u u' : List Nat) (j j' : Nat), (∀ c ∈ p, c ∉ J) → (∀ c ∈ p', c ∉ J) → j ∈ J → j' ∈ J → p ++ j :: u = p' ++ j' :: u' → p = p' ∧ j = j' ∧ u = u' := by
    intro p
    induction p with
    | nil =>
      intro p' u u' j j' _ h' hj hj' e
      cases p' with
      | nil =>
        have := List.cons.inj e
        exact ⟨rfl, this.1, this.2⟩
      | cons c p' =>
        have := List.cons.inj (show j :: u = c :: (p' ++ j' :: u') from e)
        exact absurd hj (this.1 ▸ h' c (List.mem_cons_self ..))
    | cons c p ih =>
      intro p' u u' j j' h h' hj hj' e
      cases p' with
      | nil =>
        have := List.cons.inj (show c :: (p ++ j :: u) = j' :: u' from e)
        exact absurd hj' (this.1 ▸ h c (List.mem_cons_self ..))
      | cons c' p' =>
        have := List.cons.inj (show c :: (p ++ j :: u) = c' :: (p' ++ j' :: u') from e)
        obtain ⟨h1, h2, h3⟩ := ih p' u u' j j' (fun x hx => h x (List.mem_cons_of_mem _ hx)) (fun x hx => h' x (List.mem_cons_of_mem _ hx)) hj hj' this.2
        exact ⟨by rw [this.1, h1], h2, h3⟩
  have notin : ∀ (p u : List Nat) (j : Nat), (∀ c ∈ p, c ∉ J) → j ∈ J → ∀ q : List Nat, (∀ c ∈ q, c ∉ J) → q ≠ p ++ j :: u := fun p u j _ hj q hq e => by
    refine hq j ?_ hj
    rw [e]
    simp
  intro f
  induction f with
  | nil =>
    intro ps f' ps' P P' e
    obtain ⟨p, rfl⟩ : ∃ p, ps = [p] := by
      have := P.len
      match ps, this with
      | [p], _ => exact ⟨p, rfl⟩
    cases f' with
    | nil =>
      obtain ⟨p', rfl⟩ : ∃ p, ps' = [p] := by
        have := P'.len
        match ps', this with
        | [p], _ => exact ⟨p, rfl⟩
      have e : p = p' := e
      rw [e]
      exact ⟨rfl, rfl⟩
    | cons j f' =>
      cases ps' with
      | nil => exact absurd P'.len (by simp)
      | cons p' ps' => exact absurd e (notin p' (inter f' ps') j (P'.noJ p' (List.mem_cons_self ..)) (P'.inJ j (List.mem_cons_self ..)) p (P.noJ p (List.mem_singleton.mpr rfl)))
  | cons j f ih =>
    intro ps f' ps' P P' e
    cases ps with
    | nil => exact absurd P.len (by simp)
    | cons p ps =>
      cases f' with
      | nil =>
        obtain ⟨p', rfl⟩ : ∃ p, ps' = [p] := by
          have := P'.len
          match ps', this with
          | [p], _ => exact ⟨p, rfl⟩
        exact absurd e.symm (notin p (inter f ps) j (P.noJ p (List.mem_cons_self ..)) (P.inJ j (List.mem_cons_self ..)) p' (P'.noJ p' (List.mem_singleton.mpr rfl)))
      | cons j' f' =>
        cases ps' with
        | nil => exact absurd P'.len (by simp)
        | cons p' ps' =>
          obtain ⟨h1, h2, h3⟩ := first p p' (inter f ps) (inter f' ps') j j' (P.noJ p (List.mem_cons_self ..)) (P'.noJ p' (List.mem_cons_self ..)) (P.inJ j (List.mem_cons_self ..)) (P'.inJ j' (List.mem_cons_self ..)) e
          obtain ⟨h4, h5⟩ := ih ⟨by simpa using P.len, fun c hc => P.inJ c (List.mem_cons_of_mem _ hc), fun q hq => P.noJ q (List.mem_cons_of_mem _ hq)⟩ ⟨by simpa using P'.len, fun c hc => P'.inJ c (List.mem_cons_of_mem _ hc), fun q hq => P'.noJ q (List.mem_cons_of_mem _ hq)⟩ h3
          rw [h1, h2, h4, h5]
          exact ⟨rfl, rfl⟩
theorem parts_unique {J f : List Nat} {ps : List (List Nat)} (P : Parted J f ps) : found J (inter f ps) = f ∧ pieces J (inter f ps) = ps := inter_inj (parted J _) P (unparted J _)
/-! ### put together = joints moved, pieces turned -/
theorem rot_len (ps : List (List Nat)) (k : Nat) : (rot ps k).length = ps.length := by simp [rot]
theorem rot_getD (ps : List (List Nat)) (k : Nat) {i : Nat} (h : i < ps.length) : (rot ps k).getD i [] = ps.getD ((i + k) % ps.length) [] := by
  unfold rot
  rw [List.getD_eq_getElem?_getD, List.getElem?_map, List.getElem?_eq_getElem (by rw [List.length_range]; exact h), List.getElem_range]
  rfl
theorem list_ext_getD {α : Type} {d : α} {xs ys : List α} (hl : xs.length = ys.length) (h : ∀ i, i < xs.length → xs.getD i d = ys.getD i d) : xs = ys := by
  refine List.ext_getElem hl fun i h1 h2 => ?_
  have := h i h1
  rw [List.getD_eq_getElem?_getD, List.getD_eq_getElem?_getD, List.getElem?_eq_getElem h1, List.getElem?_eq_getElem h2] at this
  exact this
theorem rot_rot (ps : List (List Nat)) (a b : Nat) : rot (rot ps a) b = rot ps (a + b) := by
  refine list_ext_getD (d := []) (by simp [rot_len]) fun i hi => ?_
  rw [rot_len, rot_len] at hi
  have hm : (i + b) % ps.length < ps.length := Nat.mod_lt _ (by omega)
  rw [rot_getD _ _ (by rw [rot_len]; exact hi), rot_len, rot_getD _ _ hm, rot_getD _ _ hi, Nat.mod_add_mod]
  congr 2
  omega
theorem rot_mod (ps : List (List Nat)) {a b : Nat} (h : a % ps.length = b % ps.length) : rot ps a = rot ps b := by
  unfold rot
  refine List.map_congr_left fun i _ => ?_
  rw [Nat.add_mod i a, h, ← Nat.add_mod]
theorem rot_zero (ps : List (List Nat)) : rot ps 0 = ps := by
  refine list_ext_getD (d := []) (rot_len _ _) fun i hi => ?_
  rw [rot_len] at hi
  rw [rot_getD _ _ hi, Nat.add_zero, Nat.mod_eq_of_lt hi]
theorem put_inter {f : List Nat} {ps : List (List Nat)} {ms : List Nat} {t : Nat} (h : ps.length = ms.length + 1) : put f ps ms t = inter (ms.map fun m => f.getD m 0) (rot ps t) := by
  have key : ∀ (i : Nat) (hi : i ≤ ms.length), putN f ps ms t i = inter ((ms.take i).map fun m => f.getD m 0) ((rot ps t).take (i + 1)) := by
    intro i
    induction i with
    | zero =>
      intro _
      have e : (rot ps t).take 1 = [ps.getD (t % ps.length) []] := by
        have h0 : (rot ps t)[0]? = some (ps.getD (t % ps.length) []) := by
          unfold rot
          rw [List.getElem?_map, List.getElem?_eq_getElem (by rw [List.length_range]; omega), List.getElem_range]
          show some (ps.getD ((0 + t) % ps.length) []) = _
          rw [Nat.zero_add]
        rw [List.take_one, List.head?_eq_getElem?, h0]
        rfl
      rw [e]
      rfl
    | succ i ih =>
      intro hi
      have h1 : ms[i]? = some (ms.getD i 0) := by
        rw [List.getD_eq_getElem?_getD, List.getElem?_eq_getElem (by omega)]
        rfl
      have h2 : (rot ps t)[i + 1]? = some (ps.getD ((i + 1 + t) % ps.length) []) := by
        unfold rot
        rw [List.getElem?_map, List.getElem?_eq_getElem (by rw [List.length_range]; omega), List.getElem_range]
        rfl
      rw [List.take_succ (l := ms), h1, List.take_succ (i := i + 1), h2]
      show putN f ps ms t i ++ [f.getD (ms.getD i 0) 0] ++ ps.getD ((i + 1 + t) % ps.length) [] = inter ((ms.take i ++ [ms.getD i 0]).map fun m => f.getD m 0) ((rot ps t).take (i + 1) ++ [ps.getD ((i + 1 + t) % ps.length) []])
      rw [List.map_append]
      show _ = inter (((ms.take i).map fun m => f.getD m 0) ++ f.getD (ms.getD i 0) 0 :: []) _
      rw [inter_append _ _ _ [] [ps.getD ((i + 1 + t) % ps.length) []] (by rw [List.length_take, rot_len, List.length_map, List.length_take]; omega), ih (by omega)]
      simp [inter]
  have e := key ms.length (Nat.le_refl _)
  rw [List.take_length, ← h, ← rot_len ps t, List.take_length] at e
  exact e
end K74
/-! permutations, goals, the last place unlike -/
namespace K74
theorem move_perm {α : Type} (l : List α) (p : Nat) : (move l p).Perm l := by
  conv => rhs; rw [move_parts l p]
  unfold move
  exact List.perm_append_comm.trans (List.perm_append_comm.append_left _)
theorem moves_perm {α : Type} : ∀ (ps : List Nat) (l : List α), (ps.foldl move l).Perm l
  | [], l => List.Perm.refl l
  | p :: ps, l => (moves_perm ps (move l p)).trans (move_perm l p)
structure PermN (n : Nat) (ms : List Nat) : Prop where
  len : ms.length = n
  lt : ∀ x ∈ ms, x < n
  nd : ms.Nodup
  mem : ∀ v, v < n → v ∈ ms
theorem mvs_permN (n : Nat) (ps : List Nat) : PermN n (mvs n ps) := by
  have h : (mvs n ps).Perm (List.range n) := moves_perm ps _
  exact ⟨by rw [h.length_eq, List.length_range], fun x hx => List.mem_range.mp (h.mem_iff.mp hx), h.nodup_iff.mpr List.nodup_range, fun v hv => h.mem_iff.mpr (List.mem_range.mpr hv)⟩
theorem PermN.at {n : Nat} {ms : List Nat} (h : PermN n ms) {v : Nat} (hv : v < n) : ∃ i, i < n ∧ ms.getD i 0 = v := by
  obtain ⟨i, hi, e⟩ := List.getElem_of_mem (h.mem v hv)
  exact ⟨i, h.len ▸ hi, by rw [List.getD_eq_getElem?_getD, List.getElem?_eq_getElem hi]; exact e⟩
theorem PermN.inj {n : Nat} {ms : List Nat} (h : PermN n ms) {i j : Nat} (hi : i < n) (hj : j < n) (e : ms.getD i 0 = ms.getD j 0) : i = j := by
  have hi' : i < ms.length := by rw [h.len]; exact hi
  have hj' : j < ms.length := by rw [h.len]; exact hj
  rw [List.getD_eq_getElem?_getD, List.getD_eq_getElem?_getD, List.getElem?_eq_getElem hi', List.getElem?_eq_getElem hj'] at e
  exact (List.getElem_inj h.nd).mp e
theorem PermN.get_lt {n : Nat} {ms : List Nat} (h : PermN n ms) {i : Nat} (hi : i < n) : ms.getD i 0 < n := by
  have hi' : i < ms.length := by rw [h.len]; exact hi
  rw [List.getD_eq_getElem?_getD, List.getElem?_eq_getElem hi']
  exact h.lt _ (List.getElem_mem hi')
theorem getD_set (l : List Nat) (i v j : Nat) : (l.set i v).getD j 0 = if i = j ∧ j < l.length then v else l.getD j 0 := by
  rw [List.getD_eq_getElem?_getD, List.getD_eq_getElem?_getD, List.getElem?_set]
  by_cases h : i = j
  · subst h
    by_cases h2 : i < l.length
    · rw [if_pos rfl, if_pos h2, if_pos ⟨rfl, h2⟩]
      rfl
    · rw [if_pos rfl, if_neg h2, if_neg fun z => h2 z.2, List.getElem?_eq_none (by omega)]
  · rw [if_neg h, if_neg fun z => h z.1]
theorem goalsN_at {n : Nat} {ms : List Nat} (h : PermN n ms) : ∀ k, k ≤ n → ∀ i, i < k → (goalsN ms k).getD (ms.getD i 0) 0 = i
  | 0, _, _, hi => absurd hi (Nat.not_lt_zero _)
  | k + 1, hk, i, hi => by
    show ((goalsN ms k).set (ms.getD k 0) k).getD (ms.getD i 0) 0 = i
    have hl := h.get_lt (i := i) (by omega)
    rw [getD_set, goalsN_len, h.len]
    by_cases e : ms.getD k 0 = ms.getD i 0
    · rw [if_pos ⟨e, hl⟩]
      exact h.inj (by omega) (by omega) e
    · rw [if_neg fun z => e z.1]
      refine goalsN_at h k (by omega) i ?_
      have : i ≠ k := fun z => e (by rw [z])
      omega
theorem goals_at {n : Nat} {ms : List Nat} (h : PermN n ms) {i : Nat} (hi : i < n) : (goals ms).getD (ms.getD i 0) 0 = i := by
  unfold goals
  rw [h.len]
  exact goalsN_at h n (Nat.le_refl _) i hi
theorem at_goals {n : Nat} {ms : List Nat} (h : PermN n ms) {v : Nat} (hv : v < n) : (goals ms).getD v 0 < n ∧ ms.getD ((goals ms).getD v 0) 0 = v := by
  obtain ⟨i, hi, e⟩ := h.at hv
  have := goals_at h hi
  rw [e] at this
  rw [this]
  exact ⟨hi, e⟩
theorem lastUn_none {n : Nat} {a b : List Nat} (ha : PermN n a) (hb : PermN n b) : lastUn a b = none ↔ a = b := by
  constructor
  · intro h
    have h0 : unls a b = [] := by
      unfold lastUn at h
      exact List.getLast?_eq_none_iff.mp h
    have eq : ∀ v, v < n → (goals a).getD v 0 = (goals b).getD v 0 := fun v hv => by
      refine Classical.byContradiction fun hn => ?_
      have : v ∈ unls a b := List.mem_filter.mpr ⟨List.mem_range.mpr (by rw [ha.len]; exact hv), by unfold unl; rw [decide_eq_false hn]; rfl⟩
      rw [h0] at this
      exact absurd this List.not_mem_nil
    refine list_ext_getD (d := 0) (by rw [ha.len, hb.len]) fun i hi => ?_
    rw [ha.len] at hi
    have h1 := eq _ (ha.get_lt hi)
    rw [goals_at ha hi] at h1
    have h2 := (at_goals hb (ha.get_lt hi)).2
    rw [← h1] at h2
    exact h2.symm
  · intro h
    subst h
    have : unls a a = [] := by
      refine List.filter_eq_nil_iff.mpr fun v _ => ?_
      unfold unl
      simp
    unfold lastUn
    rw [this]
    rfl
theorem lastUn_some {n : Nat} {a b : List Nat} {p : Nat} (ha : PermN n a) (h : lastUn a b = some p) : p < n ∧ (goals a).getD p 0 ≠ (goals b).getD p 0 ∧ ∀ q, p < q → q < n → (goals a).getD q 0 = (goals b).getD q 0 := by
  obtain ⟨ys, e⟩ := lastAt h
  have hm : p ∈ unls a b := by
    rw [e]
    simp
  have h1 := List.mem_filter.mp hm
  have hlt : p < n := by
    have := List.mem_range.mp h1.1
    rw [ha.len] at this
    exact this
  refine ⟨hlt, ?_, fun q hq hqn => ?_⟩
  · intro z
    have := h1.2
    unfold unl at this
    rw [decide_eq_true z] at this
    cases this
  · refine Classical.byContradiction fun hn => ?_
    have hqm : q ∈ unls a b := List.mem_filter.mpr ⟨List.mem_range.mpr (by rw [ha.len]; exact hqn), by unfold unl; rw [decide_eq_false hn]; rfl⟩
    have hs : (unls a b).Pairwise (· < ·) := (List.pairwise_lt_range).filter _
    rw [e] at hs hqm
    rcases List.mem_append.mp hqm with z | z
    · have := (List.pairwise_append.mp hs).2.2 q z p (List.mem_singleton.mpr rfl)
      omega
    · rw [List.mem_singleton.mp z] at hq
      omega
end K74
/-! led: the joints moved, the pieces turned -/
namespace K74
theorem countJ_app (J u v : List Nat) : countJ J (u ++ v) = countJ J u + countJ J v := by
  unfold countJ
  rw [List.filter_append, List.length_append]
theorem countJ_no {J p : List Nat} (h : ∀ c ∈ p, c ∉ J) : countJ J p = 0 := by
  unfold countJ
  rw [List.filter_eq_nil_iff.mpr fun c hc => by simpa using h c hc]
  rfl
theorem countJ_one {J : List Nat} {c : Nat} (h : c ∈ J) (v : List Nat) : countJ J (c :: v) = 1 + countJ J v := by
  unfold countJ
  rw [List.filter_cons_of_pos (by simpa using h), List.length_cons]
  omega
theorem countJ_inter {J : List Nat} : ∀ {f : List Nat} {ps : List (List Nat)}, Parted J f ps → countJ J (inter f ps) = f.length
  | [], [], P => absurd P.len (by simp)
  | [], p :: ps, P => countJ_no (P.noJ p (List.mem_cons_self ..))
  | j :: f, [], P => absurd P.len (by simp)
  | j :: f, p :: ps, P => by
    show countJ J (p ++ j :: inter f ps) = _
    rw [countJ_app, countJ_no (P.noJ p (List.mem_cons_self ..)), countJ_one (P.inJ j (List.mem_cons_self ..)), countJ_inter ⟨by simpa using P.len, fun c hc => P.inJ c (List.mem_cons_of_mem _ hc), fun q hq => P.noJ q (List.mem_cons_of_mem _ hq)⟩, List.length_cons]
    omega
theorem found_len (J w : List Nat) : (found J w).length = countJ J w := by
  rw [← countJ_inter (parted J w), unparted]
theorem jplaces_app (J u v : List Nat) : jplaces J (u ++ v) = jplaces J u ++ (jplaces J v).map (u.length + ·) := by
  unfold jplaces
  rw [List.length_append, List.range_add, List.filter_append, List.filter_map]
  refine congr (congrArg _ (List.filter_congr fun i hi => ?_)) (congrArg _ (List.filter_congr fun i hi => ?_))
  · have := List.mem_range.mp hi
    rw [List.getD_eq_getElem?_getD, List.getD_eq_getElem?_getD, List.getElem?_append_left this]
  · show decide ((u ++ v).getD (u.length + i) 0 ∈ J) = _
    rw [List.getD_eq_getElem?_getD, List.getD_eq_getElem?_getD, List.getElem?_append_right (by omega), Nat.add_sub_cancel_left]
theorem jplaces_at {J u : List Nat} {c : Nat} {v : List Nat} (hc : c ∈ J) : (jplaces J (u ++ c :: v)).getD (countJ J u) 0 = u.length := by
  have e : jplaces J (c :: v) = 0 :: ((jplaces J v).map (1 + ·)) := by
    have := jplaces_app J [c] v
    have e1 : jplaces J [c] = [0] := by
      unfold jplaces
      show (List.range 1).filter _ = [0]
      rw [show List.range 1 = [0] from rfl, List.filter_cons_of_pos (by simpa using hc)]
      rfl
    rw [e1] at this
    exact this
  rw [jplaces_app, e, ← jplaces_len, List.getD_eq_getElem?_getD, List.getElem?_append_right (Nat.le_refl _), Nat.sub_self]
  rfl
theorem move_at (u v : List Nat) (c : Nat) : move (u ++ c :: v) u.length = v ++ c :: u := by
  unfold move
  have e1 : (u ++ c :: v).drop (u.length + 1) = v := by
    rw [← List.drop_drop, List.drop_left]
    rfl
  rw [e1, List.drop_left, List.take_left]
  simp
theorem inter_cut {J f : List Nat} {ps : List (List Nat)} (P : Parted J f ps) {i : Nat} (hi : i < f.length) : inter f ps = inter (f.take i) (ps.take (i + 1)) ++ f[i] :: inter (f.drop (i + 1)) (ps.drop (i + 1)) := by
  have e1 : f = f.take i ++ f[i] :: f.drop (i + 1) := by
    rw [← List.drop_eq_getElem_cons hi, List.take_append_drop]
  have e2 : ps = ps.take (i + 1) ++ ps.drop (i + 1) := (List.take_append_drop _ _).symm
  have := P.len
  rw [← inter_append _ _ _ _ _ (by rw [List.length_take, List.length_take]; omega), ← e1, ← e2]
theorem rot_cut (ps : List (List Nat)) {k : Nat} (hk : k ≤ ps.length) : rot ps k = ps.drop k ++ ps.take k := by
  refine list_ext_getD (d := []) (by simp [rot_len]; omega) fun i hi => ?_
  rw [rot_len] at hi
  rw [rot_getD _ _ hi]
  by_cases h : i + k < ps.length
  · rw [Nat.mod_eq_of_lt h, List.getD_eq_getElem?_getD, List.getD_eq_getElem?_getD, List.getElem?_append_left (by rw [List.length_drop]; omega), List.getElem?_drop, Nat.add_comm]
  · have e : (i + k) % ps.length = i + k - ps.length := by
      rw [Nat.mod_eq_sub_mod (by omega), Nat.mod_eq_of_lt (by omega)]
    rw [e, List.getD_eq_getElem?_getD, List.getD_eq_getElem?_getD, List.getElem?_append_right (by rw [List.length_drop]; omega), List.length_drop, List.getElem?_take_of_lt (by omega)]
    congr 2
    omega
theorem mem_rot {ps : List (List Nat)} {k : Nat} {q : List Nat} (h : q ∈ rot ps k) : q ∈ ps := by
  unfold rot at h
  obtain ⟨i, hi, rfl⟩ := List.mem_map.mp h
  have hl := List.mem_range.mp hi
  have : (i + k) % ps.length < ps.length := Nat.mod_lt _ (by omega)
  rw [List.getD_eq_getElem?_getD, List.getElem?_eq_getElem this]
  exact List.getElem_mem this
theorem Parted.step {J f : List Nat} {ps : List (List Nat)} (P : Parted J f ps) {i : Nat} (hi : i < f.length) : Parted J (move f i) (rot ps (i + 1)) :=
  ⟨by rw [rot_len, move_len hi, P.len], fun c hc => P.inJ c (move_mem hc), fun q hq => P.noJ q (mem_rot hq)⟩
theorem led_step {J f : List Nat} {ps : List (List Nat)} (P : Parted J f ps) {i : Nat} (hi : i < f.length) : ledStep J (inter f ps) i = inter (move f i) (rot ps (i + 1)) := by
  have hps := P.len
  have hcnt : countJ J (inter (f.take i) (ps.take (i + 1))) = i := by
    rw [countJ_inter (J := J) ⟨by rw [List.length_take, List.length_take]; omega, fun c hc => P.inJ c (List.mem_of_mem_take hc), fun q hq => P.noJ q (List.mem_of_mem_take hq)⟩, List.length_take]
    omega
  unfold ledStep
  rw [inter_cut P hi]
  have hat := jplaces_at (J := J) (u := inter (f.take i) (ps.take (i + 1))) (v := inter (f.drop (i + 1)) (ps.drop (i + 1))) (P.inJ _ (List.getElem_mem hi))
  rw [hcnt] at hat
  rw [hat, move_at, ← inter_append _ _ _ _ _ (by rw [List.length_drop, List.length_drop]; omega), rot_cut _ (by omega)]
  unfold move
  rw [show (f.drop i).take 1 = [f[i]] by rw [List.drop_eq_getElem_cons hi]; rfl]
  simp
theorem led_inter {J : List Nat} {n : Nat} : ∀ {a f : List Nat} {ps : List (List Nat)}, Parted J f ps → f.length = n → (∀ x ∈ a, x < n) → led J (inter f ps) a = inter (a.foldl move f) (rot ps (turn a)) ∧ Parted J (a.foldl move f) (rot ps (turn a))
  | [], f, ps, P, _, _ => by
    show inter f ps = inter f (rot ps 0) ∧ Parted J f (rot ps 0)
    rw [rot_zero]
    exact ⟨rfl, P⟩
  | x :: a, f, ps, P, hf, ha => by
    have hx : x < f.length := by
      rw [hf]
      exact ha x (List.mem_cons_self ..)
    obtain ⟨h1, h2⟩ := led_inter (a := a) (P.step hx) (by rw [move_len hx, hf]) fun y hy => ha y (List.mem_cons_of_mem _ hy)
    have et : turn (x :: a) = x + 1 + turn a := by
      unfold turn
      rw [List.map_cons, List.sum_cons]
    rw [rot_rot, ← et] at h1 h2
    refine ⟨?_, h2⟩
    show led J (ledStep J (inter f ps) x) a = _
    rw [led_step P hx]
    exact h1
theorem move_map {α β : Type} (g : α → β) (l : List α) (p : Nat) : move (l.map g) p = (move l p).map g := by
  unfold move
  simp [List.map_append, List.map_drop, List.map_take]
theorem moves_map {α β : Type} (g : α → β) : ∀ (ps : List Nat) (l : List α), ps.foldl move (l.map g) = (ps.foldl move l).map g
  | [], _ => rfl
  | p :: ps, l => by
    show ps.foldl move (move (l.map g) p) = (ps.foldl move (move l p)).map g
    rw [move_map, moves_map g ps]
theorem moves_is {n : Nat} {f a : List Nat} (hf : f.length = n) : a.foldl move f = (mvs n a).map fun m => f.getD m 0 := by
  unfold mvs
  rw [← moves_map, ← hf, range_getD_id]
/-- led, told by joints and pieces -/
theorem led_put {J w a : List Nat} {n : Nat} (hw : countJ J w = n) (ha : ∀ x ∈ a, x < n) : led J w a = put (found J w) (pieces J w) (mvs n a) (turn a) ∧ Parted J ((mvs n a).map fun m => (found J w).getD m 0) (rot (pieces J w) (turn a)) ∧ led J w a = inter ((mvs n a).map fun m => (found J w).getD m 0) (rot (pieces J w) (turn a)) := by
  have hf : (found J w).length = n := by rw [found_len, hw]
  obtain ⟨h1, h2⟩ := led_inter (parted J w) hf ha
  rw [unparted, moves_is hf] at h1
  rw [moves_is hf] at h2
  refine ⟨?_, h2, h1⟩
  rw [h1, put_inter (by rw [pieces_len, hf, (mvs_permN n a).len])]
theorem led_eq_iff {J w a b : List Nat} {n : Nat} (hw : countJ J w = n) (ha : ∀ x ∈ a, x < n) (hb : ∀ x ∈ b, x < n) :
    led J w a = led J w b ↔ ((mvs n a).map fun m => (found J w).getD m 0) = ((mvs n b).map fun m => (found J w).getD m 0) ∧ rot (pieces J w) (turn a) = rot (pieces J w) (turn b) := by
  obtain ⟨_, P, e⟩ := led_put hw ha
  obtain ⟨_, P', e'⟩ := led_put hw hb
  rw [e, e']
  exact ⟨inter_inj P P', fun ⟨h1, h2⟩ => by rw [h1, h2]⟩
end K74
/-! the words that part -/
namespace K74
def PLs : List (List Nat × List Nat) := [([120], [97, 120]), ([120, 121], [97, 120, 121]), ([97, 98], [97, 98, 99]), ([98, 100], [97, 98, 100]), ([97], [97, 98])]
def JGs : List (List Nat) := [[120], [109, 120], [98, 99, 100]]
def unlk (J : List Nat) (n : Nat) (a b : List Nat) : Bool := !decide (mvs n a = mvs n b) && decide (1 < J.length)
theorem firstW_symm (J : List Nat) (n : Nat) (a b L : List Nat) : firstW J n a b L = firstW J n b a L := by
  unfold firstW
  have : parts2 J n a b = parts2 J n b a := by
    funext w
    unfold parts2
    have : (led J w a = led J w b) = (led J w b = led J w a) := propext eq_comm
    simp only [this]
  rw [this]
/-- the least joint, the second, the least body -/
structure Good (J : List Nat) (j0 j1 c0 : Nat) : Prop where
  ne : J ≠ []
  bne : bodies J ≠ []
  z : J.getD 0 0 = j0
  o : J.getD 1 0 = j1
  b : (bodies J).getD 0 0 = c0
  jin : j0 ∈ J
  cno : c0 ∉ J
  two : 1 < J.length → j1 ∈ J ∧ j1 ≠ j0
  one : ¬ 1 < J.length → ∀ c ∈ J, c = j0
  low : ∀ c ∈ J, 97 ≤ c ∧ c < 123
  clow : 97 ≤ c0 ∧ c0 < 123
theorem goodG {J : List Nat} (h : J ∈ JGs) : ∃ j0 j1 c0, Good J j0 j1 c0 := by
  simp only [JGs, List.mem_cons, List.not_mem_nil, or_false] at h
  rcases h with rfl | rfl | rfl
  · exact ⟨120, 0, 97, by decide, by decide, by decide, by decide, by decide, by decide, by decide, by decide, by decide, by decide, by decide⟩
  · exact ⟨109, 120, 97, by decide, by decide, by decide, by decide, by decide, by decide, by decide, by decide, by decide, by decide, by decide⟩
  · exact ⟨98, 99, 97, by decide, by decide, by decide, by decide, by decide, by decide, by decide, by decide, by decide, by decide, by decide⟩
def word1 (j0 j1 n p : Nat) : List Nat := List.replicate p j0 ++ [j1] ++ List.replicate (n - 1 - p) j0
theorem turns_iff (s t n : Nat) : ((s : Int) - (t : Int)) % ((n : Int) + 1) = 0 ↔ s % (n + 1) = t % (n + 1) := by
  rw [← Int.emod_eq_emod_iff_emod_sub_eq_zero]
  have e : ∀ k : Nat, (k : Int) % ((n : Int) + 1) = ((k % (n + 1) : Nat) : Int) := fun k => by
    rw [Int.natCast_emod]
    rfl
  rw [e, e]
  exact Int.ofNat_inj
theorem npartB_is {J : List Nat} {j0 j1 c0 n : Nat} {a b : List Nat} (g : Good J j0 j1 c0) : npartB J n a b = if turn a % (n + 1) = turn b % (n + 1) then none else some (lesser (c0 :: List.replicate n j0) (List.replicate n j0 ++ [c0])) := by
  unfold npartB
  rw [g.z, g.b]
  by_cases h : turn a % (n + 1) = turn b % (n + 1)
  · rw [if_pos h, if_pos (.inl ((turns_iff _ _ _).mpr h))]
  · rw [if_neg h, if_neg]
    rintro (z | z | z)
    · exact h ((turns_iff _ _ _).mp z)
    · exact g.bne z
    · exact g.ne z
theorem npart_unl {J : List Nat} {j0 j1 c0 n : Nat} {a b : List Nat} (g : Good J j0 j1 c0) (h : unlk J n a b = true) : ∃ p, lastUn (mvs n a) (mvs n b) = some p ∧ npart J n a b = some (word1 j0 j1 n p) := by
  unfold unlk at h
  obtain ⟨h1, h2⟩ := Bool.and_eq_true_iff.mp h
  have h1 : mvs n a ≠ mvs n b := fun z => by
    rw [decide_eq_true z] at h1
    cases h1
  have h2 := of_decide_eq_true h2
  cases e : lastUn (mvs n a) (mvs n b) with
  | none => exact absurd ((lastUn_none (mvs_permN n a) (mvs_permN n b)).mp e) h1
  | some p =>
    refine ⟨p, rfl, ?_⟩
    unfold npart
    rw [e]
    show (if 1 < J.length then _ else _) = _
    rw [if_pos h2, g.z, g.o]
    rfl
theorem npart_like {J : List Nat} {n : Nat} {a b : List Nat} (h : unlk J n a b = false) : npart J n a b = npartB J n a b := by
  unfold npart
  cases e : lastUn (mvs n a) (mvs n b) with
  | none => rfl
  | some p =>
    show (if 1 < J.length then _ else _) = _
    rw [if_neg]
    intro z
    unfold unlk at h
    rw [decide_eq_true z, Bool.and_true] at h
    have : mvs n a = mvs n b := by
      refine Classical.byContradiction fun hn => ?_
      rw [decide_eq_false hn] at h
      cases h
    rw [(lastUn_none (mvs_permN n a) (mvs_permN n b)).mpr this] at e
    cases e
theorem great_none {J : List Nat} (h : J ∈ JGs) {n : Nat} {a b : List Nat} (ha : ∀ x ∈ a, x < n) (hb : ∀ x ∈ b, x < n) : npart J n a b = none ↔ (unlk J n a b = false ∧ turn a % (n + 1) = turn b % (n + 1)) := by
  obtain ⟨j0, j1, c0, g⟩ := goodG h
  cases e : unlk J n a b with
  | true =>
    obtain ⟨p, _, e2⟩ := npart_unl g e
    rw [e2]
    exact ⟨fun z => (by cases z), fun z => absurd z.1 (by decide)⟩
  | false =>
    rw [npart_like e, npartB_is g]
    by_cases ht : turn a % (n + 1) = turn b % (n + 1)
    · rw [if_pos ht]
      exact ⟨fun _ => ⟨rfl, ht⟩, fun _ => rfl⟩
    · rw [if_neg ht]
      exact ⟨fun z => (by cases z), fun z => absurd z.2 ht⟩
/-! ### words all of joints -/
theorem inter_bare : ∀ f : List Nat, inter f (List.replicate (f.length + 1) []) = f
  | [] => rfl
  | j :: f => by
    show [] ++ j :: inter f (List.replicate (f.length + 1) []) = _
    rw [inter_bare f]
    rfl
theorem bare_parts {J f : List Nat} (h : ∀ c ∈ f, c ∈ J) : found J f = f ∧ pieces J f = List.replicate (f.length + 1) [] := by
  have P : Parted J f (List.replicate (f.length + 1) []) := ⟨by rw [List.length_replicate], h, fun q hq c hc => by
    rw [(List.mem_replicate.mp hq).2] at hc
    exact absurd hc List.not_mem_nil⟩
  have := parts_unique P
  rw [inter_bare] at this
  exact this
theorem countJ_all {J w : List Nat} (h : ∀ c ∈ w, c ∈ J) : countJ J w = w.length := by
  unfold countJ
  rw [List.filter_eq_self.mpr fun c hc => by simpa using h c hc]
theorem all_countJ {J w : List Nat} (h : countJ J w = w.length) : ∀ c ∈ w, c ∈ J := fun c hc => by
  unfold countJ at h
  simpa using (List.length_filter_eq_length_iff.mp h) c hc
theorem rot_bare (m s t : Nat) : rot (List.replicate m []) s = rot (List.replicate m []) t := by
  unfold rot
  refine List.map_congr_left fun i hi => ?_
  have e : ∀ k, (List.replicate m ([] : List Nat)).getD k [] = [] := fun k => by
    rw [List.getD_eq_getElem?_getD, List.getElem?_replicate]
    split <;> rfl
  rw [e, e]
theorem bare_eq_iff {J w a b : List Nat} {n : Nat} (hl : w.length = n) (h : ∀ c ∈ w, c ∈ J) (ha : ∀ x ∈ a, x < n) (hb : ∀ x ∈ b, x < n) :
    led J w a = led J w b ↔ ((mvs n a).map fun m => w.getD m 0) = ((mvs n b).map fun m => w.getD m 0) := by
  rw [led_eq_iff (by rw [countJ_all h, hl]) ha hb, (bare_parts h).1, (bare_parts h).2]
  exact ⟨fun z => z.1, fun z => ⟨z, rot_bare _ _ _⟩⟩
theorem map_getD {ms w : List Nat} {i : Nat} (h : i < ms.length) : (ms.map fun m => w.getD m 0).getD i 0 = w.getD (ms.getD i 0) 0 := by
  rw [List.getD_eq_getElem?_getD, List.getElem?_map, List.getElem?_eq_getElem h, List.getD_eq_getElem?_getD (l := ms), List.getElem?_eq_getElem h]
  rfl
theorem word1_len {j0 j1 n p : Nat} (h : p < n) : (word1 j0 j1 n p).length = n := by
  simp [word1]
  omega
theorem word1_at {j0 j1 n p i : Nat} (h : p < n) (hi : i < n) : (word1 j0 j1 n p).getD i 0 = if i = p then j1 else j0 := by
  unfold word1
  rw [List.getD_eq_getElem?_getD]
  by_cases h1 : i < p
  · rw [List.append_assoc, List.getElem?_append_left (by simpa using h1), List.getElem?_replicate, if_pos h1, if_neg (by omega)]
    rfl
  · by_cases h2 : i = p
    · subst h2
      rw [List.append_assoc, List.getElem?_append_right (by simp), List.length_replicate, Nat.sub_self, if_pos rfl]
      rfl
    · rw [List.getElem?_append_right (by simp; omega), List.getElem?_replicate, if_neg h2, if_pos (by simp; omega)]
      rfl
theorem word1_in {J : List Nat} {j0 j1 n p : Nat} (h0 : j0 ∈ J) (h1 : j1 ∈ J) : ∀ c ∈ word1 j0 j1 n p, c ∈ J := fun c hc => by
  unfold word1 at hc
  rcases List.mem_append.mp hc with z | z
  · rcases List.mem_append.mp z with y | y
    · rw [(List.mem_replicate.mp y).2]
      exact h0
    · rw [List.mem_singleton.mp y]
      exact h1
  · rw [(List.mem_replicate.mp z).2]
    exact h0
theorem word1_parts {J : List Nat} {j0 j1 n p : Nat} {a b : List Nat} (h0 : j0 ∈ J) (h1 : j1 ∈ J) (hne : j1 ≠ j0) (ha : ∀ x ∈ a, x < n) (hb : ∀ x ∈ b, x < n) (hp : lastUn (mvs n a) (mvs n b) = some p) :
    ¬ led J (word1 j0 j1 n p) a = led J (word1 j0 j1 n p) b := by
  obtain ⟨hlt, hun, _⟩ := lastUn_some (mvs_permN n a) hp
  rw [bare_eq_iff (word1_len hlt) (word1_in h0 h1) ha hb]
  intro e
  have A := mvs_permN n a
  have B := mvs_permN n b
  obtain ⟨hi, e1⟩ := at_goals A hlt
  have h2 := congrArg (fun l => l.getD ((goals (mvs n a)).getD p 0) 0) e
  rw [map_getD (by rw [A.len]; exact hi), map_getD (by rw [B.len]; exact hi), e1, word1_at hlt hlt, if_pos rfl, word1_at hlt (B.get_lt hi)] at h2
  by_cases h3 : (mvs n b).getD ((goals (mvs n a)).getD p 0) 0 = p
  · have := goals_at B hi
    rw [h3] at this
    exact hun this.symm
  · rw [if_neg h3] at h2
    exact hne h2
/-! ### words with one body -/
theorem inter_body (j : Nat) (q : List Nat) : ∀ n, inter (List.replicate n j) (List.replicate n [] ++ [q]) = List.replicate n j ++ q
  | 0 => rfl
  | n + 1 => by
    rw [List.replicate_succ, List.replicate_succ]
    show [] ++ j :: inter (List.replicate n j) (List.replicate n [] ++ [q]) = _
    rw [inter_body j q n]
    rfl
theorem body_inter (j : Nat) (q : List Nat) : ∀ n, inter (List.replicate n j) (q :: List.replicate n []) = q ++ List.replicate n j
  | 0 => by
    show q = q ++ []
    simp
  | n + 1 => by
    rw [List.replicate_succ, List.replicate_succ]
    show q ++ j :: inter (List.replicate n j) ([] :: List.replicate n []) = _
    have := inter_bare (List.replicate n j)
    rw [List.length_replicate, List.replicate_succ] at this
    rw [this]
/-- one piece alone is not bare: turning it differently is seen -/
theorem rot_one {ps : List (List Nat)} {k s t : Nat} (hk : k < ps.length) (h1 : ps.getD k [] ≠ []) (h0 : ∀ m, m < ps.length → m ≠ k → ps.getD m [] = []) (e : rot ps s = rot ps t) : s % ps.length = t % ps.length := by
  have hN : 0 < ps.length := by omega
  generalize hNN : ps.length = N at hk h0 hN
  -- the place that s brings to k
  have hi : (k + N - s % N) % N < N := Nat.mod_lt _ hN
  have hs : ((k + N - s % N) % N + s) % N = k := by
    have := Nat.mod_lt s hN
    rw [Nat.mod_add_mod, ← Nat.add_mod_mod, Nat.sub_add_cancel (by omega), Nat.add_mod_right, Nat.mod_eq_of_lt hk]
  have e2 := congrArg (fun l => l.getD ((k + N - s % N) % N) []) e
  rw [rot_getD _ _ (by rw [hNN]; exact hi), rot_getD _ _ (by rw [hNN]; exact hi), hNN, hs] at e2
  have ht : ((k + N - s % N) % N + t) % N = k := by
    refine Classical.byContradiction fun hn => ?_
    rw [h0 _ (Nat.mod_lt _ hN) hn] at e2
    exact h1 e2
  generalize (k + N - s % N) % N = i at hi hs ht
  have hs' := Nat.mod_lt s hN
  have ht' := Nat.mod_lt t hN
  rw [← Nat.add_mod_mod] at hs ht
  generalize s % N = x at hs hs'
  generalize t % N = y at ht ht'
  have red : ∀ z, z < N → (i + z) % N = if i + z < N then i + z else i + z - N := fun z hz => by
    by_cases h : i + z < N
    · rw [if_pos h, Nat.mod_eq_of_lt h]
    · rw [if_neg h, Nat.mod_eq_sub_mod (by omega), Nat.mod_eq_of_lt (by omega)]
  rw [red x hs'] at hs
  rw [red y ht'] at ht
  split at hs <;> split at ht <;> omega
theorem rep_getD (n m : Nat) : (List.replicate n ([] : List Nat)).getD m [] = [] := by
  rw [List.getD_eq_getElem?_getD, List.getElem?_replicate]
  split <;> rfl
theorem body_parts {J : List Nat} {j0 c0 n : Nat} {a b w : List Nat} (h0 : j0 ∈ J) (hc : c0 ∉ J) (hw : w = c0 :: List.replicate n j0 ∨ w = List.replicate n j0 ++ [c0]) :
    countJ J w = n ∧ (found J w = List.replicate n j0) ∧ ∀ s t, rot (pieces J w) s = rot (pieces J w) t → s % (n + 1) = t % (n + 1) := by
  have hin : ∀ c ∈ List.replicate n j0, c ∈ J := fun c h => by
    rw [(List.mem_replicate.mp h).2]
    exact h0
  have hno : ∀ c ∈ [c0], c ∉ J := fun c h => by
    rw [List.mem_singleton.mp h]
    exact hc
  have hnil : ∀ q ∈ List.replicate n ([] : List Nat), ∀ c ∈ q, c ∉ J := fun q hq c hc => by
    rw [(List.mem_replicate.mp hq).2] at hc
    exact absurd hc List.not_mem_nil
  rcases hw with rfl | rfl
  · have P : Parted J (List.replicate n j0) ([c0] :: List.replicate n []) := ⟨by simp, hin, fun q hq c hcc => by
      rcases List.mem_cons.mp hq with z | z
      · rw [z] at hcc
        exact hno c hcc
      · exact hnil q z c hcc⟩
    have hu := parts_unique P
    have hcn := countJ_inter P
    rw [body_inter] at hu hcn
    rw [List.length_replicate] at hcn
    refine ⟨hcn, hu.1, fun s t e => ?_⟩
    rw [show c0 :: List.replicate n j0 = [c0] ++ List.replicate n j0 from rfl, hu.2] at e
    have := rot_one (k := 0) (by simp) (by simp) (fun m hm hne => by
      cases m with
      | zero => exact absurd rfl hne
      | succ m => exact rep_getD n m) e
    simpa using this
  · have P : Parted J (List.replicate n j0) (List.replicate n [] ++ [[c0]]) := ⟨by simp, hin, fun q hq c hcc => by
      rcases List.mem_append.mp hq with z | z
      · exact hnil q z c hcc
      · rw [List.mem_singleton.mp z] at hcc
        exact hno c hcc⟩
    have hu := parts_unique P
    have hcn := countJ_inter P
    rw [inter_body] at hu hcn
    rw [List.length_replicate] at hcn
    refine ⟨hcn, hu.1, fun s t e => ?_⟩
    rw [hu.2] at e
    have := rot_one (k := n) (by simp) (by simp) (fun m hm hne => by
      have hm' : m < n := by
        simp at hm
        omega
      rw [List.getD_eq_getElem?_getD, List.getElem?_append_left (by simpa using hm'), List.getElem?_replicate, if_pos hm']
      rfl) e
    simpa using this
theorem lesser_or (x y : List Nat) : lesser x y = x ∨ lesser x y = y := by
  unfold lesser
  split
  · exact .inr rfl
  · exact .inl rfl
theorem great_some {J : List Nat} (h : J ∈ JGs) {n : Nat} {a b w : List Nat} (ha : ∀ x ∈ a, x < n) (hb : ∀ x ∈ b, x < n) (hw : npart J n a b = some w) :
    Low w ∧ w.length = n + (if unlk J n a b = true then 0 else 1) ∧ countJ J w = n ∧ (found J w).length = n ∧ put (found J w) (pieces J w) (mvs n a) (turn a) ≠ put (found J w) (pieces J w) (mvs n b) (turn b) := by
  obtain ⟨j0, j1, c0, g⟩ := goodG h
  suffices hs : Low w ∧ w.length = n + (if unlk J n a b = true then 0 else 1) ∧ countJ J w = n ∧ ¬ led J w a = led J w b by
    obtain ⟨h1, h2, h3, h4⟩ := hs
    refine ⟨h1, h2, h3, by rw [found_len, h3], ?_⟩
    rw [← (led_put h3 ha).1, ← (led_put h3 hb).1]
    exact h4
  cases e : unlk J n a b with
  | true =>
    obtain ⟨p, hp, e2⟩ := npart_unl g e
    rw [e2] at hw
    have hw := Option.some.inj hw
    subst hw
    unfold unlk at e
    obtain ⟨hj1, hne⟩ := g.two (of_decide_eq_true (Bool.and_eq_true_iff.mp e).2)
    obtain ⟨hlt, _, _⟩ := lastUn_some (mvs_permN n a) hp
    refine ⟨fun c hc => g.low c (word1_in g.jin hj1 c hc), ?_, ?_, word1_parts g.jin hj1 hne ha hb hp⟩
    · rw [word1_len hlt]
      rfl
    · rw [countJ_all (word1_in g.jin hj1), word1_len hlt]
  | false =>
    rw [npart_like e, npartB_is g] at hw
    by_cases ht : turn a % (n + 1) = turn b % (n + 1)
    · rw [if_pos ht] at hw
      cases hw
    · rw [if_neg ht] at hw
      have hw := Option.some.inj hw
      have hor := lesser_or (c0 :: List.replicate n j0) (List.replicate n j0 ++ [c0])
      rw [hw] at hor
      obtain ⟨hcn, hf, hr⟩ := body_parts (a := a) (b := b) g.jin g.cno hor
      refine ⟨?_, ?_, hcn, ?_⟩
      · intro c hc
        have : c = c0 ∨ c = j0 := by
          rcases hor with z | z
          · rw [z] at hc
            exact (List.mem_cons.mp hc).imp id fun y => (List.mem_replicate.mp y).2
          · rw [z] at hc
            exact (List.mem_append.mp hc).symm.imp List.mem_singleton.mp fun y => (List.mem_replicate.mp y).2
        rcases this with z | z
        · rw [z]
          exact g.clow
        · rw [z]
          exact g.low _ g.jin
      · rcases hor with z | z
        · rw [z]
          simp
        · rw [z]
          simp
      · rw [led_eq_iff hcn ha hb]
        exact fun z => ht (hr _ _ z.2)
end K74
/-! the first word that parts, by trying every word -/
namespace K74
structure GoodL (J L : List Nat) (j0 j1 c0 : Nat) : Prop extends Good J j0 j1 c0 where
  ls : L.Pairwise (· < ·)
  sub : ∀ c ∈ J, c ∈ L
  cin : c0 ∈ L
  lx : ∀ c ∈ L, c ∈ J ∨ c = c0
  jmin : ∀ c ∈ J, j0 ≤ c
  jsec : 1 < J.length → ∀ c ∈ J, c < j1 → c = j0
  side : (∀ c ∈ J, c0 < c) ∨ (∀ c ∈ J, c < c0)
theorem goodP {J L : List Nat} (h : (J, L) ∈ PLs) : ∃ j0 j1 c0, GoodL J L j0 j1 c0 := by
  simp only [PLs, List.mem_cons, List.not_mem_nil, or_false, Prod.mk.injEq] at h
  rcases h with ⟨rfl, rfl⟩ | ⟨rfl, rfl⟩ | ⟨rfl, rfl⟩ | ⟨rfl, rfl⟩ | ⟨rfl, rfl⟩
  · exact ⟨120, 0, 97, ⟨by decide, by decide, by decide, by decide, by decide, by decide, by decide, by decide, by decide, by decide, by decide⟩, by decide, by decide, by decide, by decide, by decide, by decide, by decide⟩
  · exact ⟨120, 121, 97, ⟨by decide, by decide, by decide, by decide, by decide, by decide, by decide, by decide, by decide, by decide, by decide⟩, by decide, by decide, by decide, by decide, by decide, by decide, by decide⟩
  · exact ⟨97, 98, 99, ⟨by decide, by decide, by decide, by decide, by decide, by decide, by decide, by decide, by decide, by decide, by decide⟩, by decide, by decide, by decide, by decide, by decide, by decide, by decide⟩
  · exact ⟨98, 100, 97, ⟨by decide, by decide, by decide, by decide, by decide, by decide, by decide, by decide, by decide, by decide, by decide⟩, by decide, by decide, by decide, by decide, by decide, by decide, by decide⟩
  · exact ⟨97, 0, 98, ⟨by decide, by decide, by decide, by decide, by decide, by decide, by decide, by decide, by decide, by decide, by decide⟩, by decide, by decide, by decide, by decide, by decide, by decide, by decide⟩
def Lw (n : Nat) (u v : List Nat) : Prop := ∃ i, i < n ∧ (∀ j, j < i → u.getD j 0 = v.getD j 0) ∧ u.getD i 0 < v.getD i 0
theorem snoc_lt {u : List Nat} {c i : Nat} (h : i < u.length) : (u ++ [c]).getD i 0 = u.getD i 0 := by
  rw [List.getD_eq_getElem?_getD, List.getElem?_append_left h, List.getD_eq_getElem?_getD]
theorem snoc_at (u : List Nat) (c : Nat) : (u ++ [c]).getD u.length 0 = c := by
  rw [List.getD_eq_getElem?_getD, List.getElem?_append_right (Nat.le_refl _), Nat.sub_self]
  rfl
theorem getD_mem {w : List Nat} {i : Nat} (h : i < w.length) : w.getD i 0 ∈ w := by
  rw [List.getD_eq_getElem?_getD, List.getElem?_eq_getElem h]
  exact List.getElem_mem h
theorem allW_sorted {L : List Nat} (hL : L.Pairwise (· < ·)) : ∀ n, (allW L n).Pairwise (Lw n)
  | 0 => List.pairwise_singleton _ _
  | n + 1 => by
    show ((allW L n).flatMap fun w => L.map fun c => w ++ [c]).Pairwise (Lw (n + 1))
    rw [List.pairwise_flatMap]
    refine ⟨fun u hu => List.pairwise_map.mpr (hL.imp fun {c d} h => ?_), (allW_sorted hL n).imp_of_mem fun {u v} hu hv h => ?_⟩
    · have hl := allW_word L n u hu
      refine ⟨n, Nat.lt_succ_self _, fun j hj => by rw [snoc_lt (by omega), snoc_lt (by omega)], ?_⟩
      rw [← hl, snoc_at, snoc_at]
      exact h
    · intro x hx y hy
      obtain ⟨c, _, rfl⟩ := List.mem_map.mp hx
      obtain ⟨d, _, rfl⟩ := List.mem_map.mp hy
      have hlu := allW_word L n u hu
      have hlv := allW_word L n v hv
      obtain ⟨i, hi, h1, h2⟩ := h
      exact ⟨i, by omega, fun j hj => by rw [snoc_lt (by omega), snoc_lt (by omega)]; exact h1 j hj, by rw [snoc_lt (by omega), snoc_lt (by omega)]; exact h2⟩
theorem allW_in {L : List Nat} : ∀ {n : Nat} {w : List Nat}, w ∈ allW L n → ∀ c ∈ w, c ∈ L
  | 0, w, h, c, hc => by
    rw [List.mem_singleton.mp h] at hc
    exact absurd hc List.not_mem_nil
  | n + 1, w, h, c, hc => by
    obtain ⟨v, hv, h2⟩ := List.mem_flatMap.mp h
    obtain ⟨d, hd, rfl⟩ := List.mem_map.mp h2
    rcases List.mem_append.mp hc with z | z
    · exact allW_in hv c z
    · rw [List.mem_singleton.mp z]
      exact hd
theorem mem_allW {L : List Nat} : ∀ {n : Nat} {w : List Nat}, w.length = n → (∀ c ∈ w, c ∈ L) → w ∈ allW L n
  | 0, w, h, _ => by
    rw [List.length_eq_zero_iff.mp h]
    exact List.mem_singleton.mpr rfl
  | n + 1, w, h, hc => by
    have hne : w ≠ [] := fun z => by
      rw [z] at h
      cases h
    have e := List.dropLast_concat_getLast hne
    rw [← e]
    refine List.mem_flatMap.mpr ⟨w.dropLast, mem_allW (by rw [List.length_dropLast, h]; rfl) fun c hx => hc c ((List.dropLast_sublist w).subset hx), List.mem_map.mpr ⟨w.getLast hne, hc _ (List.getLast_mem hne), rfl⟩⟩
theorem find_sorted {α : Type} {R : α → α → Prop} {p : α → Bool} {w : α} : ∀ {xs : List α}, xs.Pairwise R → w ∈ xs → p w = true → (∀ v ∈ xs, R v w → p v = false) → xs.find? p = some w
  | [], _, h, _, _ => absurd h List.not_mem_nil
  | x :: xs, hs, h, hw, hv => by
    by_cases e : x = w
    · subst e
      rw [List.find?_cons, hw]
    · have hin : w ∈ xs := (List.mem_cons.mp h).elim (fun z => absurd z.symm e) id
      rw [List.find?_cons, hv x (List.mem_cons_self ..) ((List.pairwise_cons.mp hs).1 w hin)]
      exact find_sorted (List.pairwise_cons.mp hs).2 hin hw fun v hm => hv v (List.mem_cons_of_mem _ hm)
/-- joints told apart by nothing -/
theorem like_maps {J : List Nat} {j0 j1 c0 n : Nat} {a b f : List Nat} (g : Good J j0 j1 c0) (hu : unlk J n a b = false) (hf : f.length = n) (hin : ∀ c ∈ f, c ∈ J) : ((mvs n a).map fun m => f.getD m 0) = ((mvs n b).map fun m => f.getD m 0) := by
  by_cases e : mvs n a = mvs n b
  · rw [e]
  · have hJ : ¬ 1 < J.length := fun z => by
      unfold unlk at hu
      rw [decide_eq_false e, decide_eq_true z] at hu
      cases hu
    have A := mvs_permN n a
    have B := mvs_permN n b
    refine list_ext_getD (d := 0) (by rw [List.length_map, List.length_map, A.len, B.len]) fun i hi => ?_
    rw [List.length_map, A.len] at hi
    rw [map_getD (by rw [A.len]; exact hi), map_getD (by rw [B.len]; exact hi), g.one hJ _ (hin _ (getD_mem (by rw [hf]; exact A.get_lt hi))), g.one hJ _ (hin _ (getD_mem (by rw [hf]; exact B.get_lt hi)))]
theorem parts2_false {J : List Nat} {n : Nat} {a b v : List Nat} (h : countJ J v = n → led J v a = led J v b) : parts2 J n a b v = false := by
  unfold parts2
  by_cases e : countJ J v = n
  · rw [decide_eq_true (h e)]
    simp
  · rw [decide_eq_false e]
    rfl
theorem parts2_true {J : List Nat} {n : Nat} {a b v : List Nat} (h : countJ J v = n) (h2 : ¬ led J v a = led J v b) : parts2 J n a b v = true := by
  unfold parts2
  rw [decide_eq_true h, decide_eq_false h2]
  rfl
/-- two words over joints whose letters up to p are the least -/
theorem upto_like {J : List Nat} {n p j0 : Nat} {a b v : List Nat} (hl : v.length = n) (hp : lastUn (mvs n a) (mvs n b) = some p) (hv : ∀ m, m ≤ p → v.getD m 0 = j0) : ((mvs n a).map fun m => v.getD m 0) = ((mvs n b).map fun m => v.getD m 0) := by
  have A := mvs_permN n a
  have B := mvs_permN n b
  obtain ⟨hlt, _, hs⟩ := lastUn_some A hp
  refine list_ext_getD (d := 0) (by rw [List.length_map, List.length_map, A.len, B.len]) fun i hi => ?_
  rw [List.length_map, A.len] at hi
  rw [map_getD (by rw [A.len]; exact hi), map_getD (by rw [B.len]; exact hi)]
  by_cases e : (mvs n a).getD i 0 = (mvs n b).getD i 0
  · rw [e]
  · have hx : (mvs n a).getD i 0 ≤ p := by
      refine Classical.byContradiction fun hn => e ?_
      have h1 := hs _ (by omega) (A.get_lt hi)
      rw [goals_at A hi] at h1
      have h2 := (at_goals B (A.get_lt hi)).2
      rw [← h1] at h2
      exact h2.symm
    have hy : (mvs n b).getD i 0 ≤ p := by
      refine Classical.byContradiction fun hn => e ?_
      have h1 := hs _ (by omega) (B.get_lt hi)
      rw [goals_at B hi] at h1
      have h2 := (at_goals A (B.get_lt hi)).2
      rw [h1] at h2
      exact h2
    rw [hv _ hx, hv _ hy]
theorem count_le (J u : List Nat) : countJ J u ≤ u.length := List.length_filter_le _ _
theorem count_cut {J u : List Nat} {i : Nat} (hi : i < u.length) (h : u.getD i 0 ∉ J) : countJ J u + 1 ≤ u.length := by
  rw [List.getD_eq_getElem?_getD, List.getElem?_eq_getElem hi] at h
  have h : u[i] ∉ J := h
  have e : u = u.take i ++ u[i] :: u.drop (i + 1) := by
    rw [← List.drop_eq_getElem_cons hi, List.take_append_drop]
  have h1 : countJ J u = countJ J (u.take i) + countJ J (u.drop (i + 1)) := by
    conv => lhs; rw [e]
    rw [countJ_app]
    congr 1
    unfold countJ
    rw [List.filter_cons_of_neg (by simpa using h)]
  have h2 := count_le J (u.take i)
  have h3 := count_le J (u.drop (i + 1))
  rw [List.length_take] at h2
  rw [List.length_drop] at h3
  omega
theorem rep_at {n j i : Nat} (h : i < n) (x : List Nat) : (List.replicate n j ++ x).getD i 0 = j := by
  rw [List.getD_eq_getElem?_getD, List.getElem?_append_left (by simpa using h), List.getElem?_replicate, if_pos h]
  rfl
theorem lesser_less {j0 c0 : Nat} (h : c0 < j0) (n : Nat) : lesser (c0 :: List.replicate n j0) (List.replicate n j0 ++ [c0]) = c0 :: List.replicate n j0 := by
  unfold lesser
  rw [if_neg]
  cases n with
  | zero => exact List.lt_irrefl _
  | succ n =>
    rw [List.replicate_succ]
    show ¬ (j0 :: (List.replicate n j0 ++ [c0]) < c0 :: _)
    rw [List.cons_lt_cons_iff]
    omega
theorem lesser_more {j0 c0 : Nat} (h : j0 < c0) (n : Nat) : lesser (c0 :: List.replicate n j0) (List.replicate n j0 ++ [c0]) = List.replicate n j0 ++ [c0] := by
  unfold lesser
  cases n with
  | zero => exact ite_self _
  | succ n =>
    rw [if_pos]
    rw [List.replicate_succ]
    show (j0 :: (List.replicate n j0 ++ [c0]) < c0 :: _)
    rw [List.cons_lt_cons_iff]
    exact .inl h
theorem first_is {J L : List Nat} (h : (J, L) ∈ PLs) {n : Nat} {a b : List Nat} (ha : ∀ x ∈ a, x < n) (hb : ∀ x ∈ b, x < n) : firstW J n a b L = npart J n a b := by
  obtain ⟨j0, j1, c0, g⟩ := goodP h
  unfold firstW
  rw [List.find?_append]
  cases hu : unlk J n a b with
  | true =>
    obtain ⟨p, hp, e2⟩ := npart_unl g.toGood hu
    have hJ : 1 < J.length := by
      unfold unlk at hu
      exact of_decide_eq_true (Bool.and_eq_true_iff.mp hu).2
    obtain ⟨hj1, hne⟩ := g.two hJ
    obtain ⟨hlt, _, hs⟩ := lastUn_some (mvs_permN n a) hp
    have hin := word1_in (n := n) (p := p) g.jin hj1
    rw [e2, find_sorted (allW_sorted g.ls n) (mem_allW (word1_len hlt) fun c hc => g.sub c (hin c hc)) (parts2_true (by rw [countJ_all hin, word1_len hlt]) (word1_parts g.jin hj1 hne ha hb hp)) fun v hv hr => ?_]
    · rfl
    · have hlv := allW_word L n v hv
      refine parts2_false fun hc => ?_
      have hvJ := all_countJ (hc.trans hlv.symm)
      rw [bare_eq_iff hlv hvJ ha hb]
      obtain ⟨i, hi, h1, h2⟩ := hr
      rw [word1_at hlt hi] at h2
      have hvi := hvJ _ (getD_mem (by rw [hlv]; exact hi))
      have hip : i = p := by
        refine Classical.byContradiction fun hn => ?_
        rw [if_neg hn] at h2
        have := g.jmin _ hvi
        omega
      subst hip
      rw [if_pos rfl] at h2
      refine upto_like (J := J) (j0 := j0) hlv hp fun m hm => ?_
      by_cases hmi : m = i
      · rw [hmi]
        exact g.jsec hJ _ hvi h2
      · rw [h1 m (by omega), word1_at hlt (by omega), if_neg hmi]
  | false =>
    rw [find_no fun v hv => ?_, npart_like hu, npartB_is g.toGood]
    · show (allW L (n + 1)).find? (parts2 J n a b) = _
      by_cases ht : turn a % (n + 1) = turn b % (n + 1)
      · rw [if_pos ht]
        refine find_no fun v hv => parts2_false fun hc => ?_
        have hf : (found J v).length = n := by rw [found_len, hc]
        rw [led_eq_iff hc ha hb]
        exact ⟨like_maps g.toGood hu hf (parted J v).inJ, rot_mod _ (by rw [pieces_len, hf]; exact ht)⟩
      · rw [if_neg ht]
        rcases g.side with hs | hs
        · have hc0 := hs _ g.jin
          rw [lesser_less hc0]
          obtain ⟨hcn, hfd, hr⟩ := body_parts (a := a) (b := b) (n := n) g.jin g.cno (.inl rfl)
          refine find_sorted (allW_sorted g.ls (n + 1)) (mem_allW (by simp) fun c hc => ?_) (parts2_true hcn ?_) fun v hv hlt => parts2_false fun hc => ?_
          · rcases List.mem_cons.mp hc with z | z
            · rw [z]
              exact g.cin
            · rw [(List.mem_replicate.mp z).2]
              exact g.sub _ g.jin
          · rw [led_eq_iff hcn ha hb]
            exact fun z => ht (hr _ _ z.2)
          · exfalso
            have hlv := allW_word L _ v hv
            obtain ⟨i, hi, h1, h2⟩ := hlt
            have hmem : ∀ k, k < n + 1 → v.getD k 0 ∈ L := fun k hk => allW_in hv _ (getD_mem (by rw [hlv]; exact hk))
            cases i with
            | zero =>
              have h2 : v.getD 0 0 < c0 := h2
              rcases g.lx _ (hmem 0 (by omega)) with z | z
              · have := hs _ z
                omega
              · omega
            | succ i =>
              have h0 : v.getD 0 0 = c0 := h1 0 (Nat.succ_pos _)
              have h2' : v.getD (i + 1) 0 < j0 := by
                have e : (c0 :: List.replicate n j0).getD (i + 1) 0 = j0 := by
                  have := rep_at (n := n) (j := j0) (i := i) (by omega) []
                  rw [List.append_nil] at this
                  exact this
                rw [e] at h2
                exact h2
              have h3 : v.getD (i + 1) 0 = c0 := by
                rcases g.lx _ (hmem (i + 1) hi) with z | z
                · have := g.jmin _ z
                  omega
                · exact z
              cases v with
              | nil => cases hlv
              | cons x v =>
                have h0 : x = c0 := h0
                have h3 : v.getD i 0 = c0 := h3
                have hlv : v.length = n := by simpa using hlv
                have := count_cut (J := J) (u := v) (i := i) (by omega) (by rw [h3]; exact g.cno)
                have e : countJ J (x :: v) = countJ J v := by
                  unfold countJ
                  rw [List.filter_cons_of_neg (by rw [h0]; simpa using g.cno)]
                omega
        · have hc0 := hs _ g.jin
          rw [lesser_more hc0]
          obtain ⟨hcn, hfd, hr⟩ := body_parts (a := a) (b := b) (n := n) g.jin g.cno (.inr rfl)
          refine find_sorted (allW_sorted g.ls (n + 1)) (mem_allW (by simp) fun c hc => ?_) (parts2_true hcn ?_) fun v hv hlt => parts2_false fun hc => ?_
          · rcases List.mem_append.mp hc with z | z
            · rw [(List.mem_replicate.mp z).2]
              exact g.sub _ g.jin
            · rw [List.mem_singleton.mp z]
              exact g.cin
          · rw [led_eq_iff hcn ha hb]
            exact fun z => ht (hr _ _ z.2)
          · exfalso
            have hlv := allW_word L _ v hv
            obtain ⟨i, hi, h1, h2⟩ := hlt
            have hmem : ∀ k, k < n + 1 → v.getD k 0 ∈ L := fun k hk => allW_in hv _ (getD_mem (by rw [hlv]; exact hk))
            by_cases hin : i < n
            · rw [rep_at hin] at h2
              rcases g.lx _ (hmem i hi) with z | z
              · have := g.jmin _ z
                omega
              · omega
            · have hin : i = n := by omega
              subst hin
              have e : (List.replicate i j0 ++ [c0]).getD i 0 = c0 := by
                have := snoc_at (List.replicate i j0) c0
                rw [List.length_replicate] at this
                exact this
              rw [e] at h2
              have hall : ∀ c ∈ v, c ∈ J := fun c hcv => by
                obtain ⟨k, hk, ek⟩ := List.getElem_of_mem hcv
                have ek' : v.getD k 0 = c := by
                  rw [List.getD_eq_getElem?_getD, List.getElem?_eq_getElem hk]
                  exact ek
                rw [← ek']
                by_cases hki : k < i
                · rw [h1 k hki, rep_at hki]
                  exact g.jin
                · have : k = i := by omega
                  rw [this]
                  rcases g.lx _ (hmem i (by omega)) with z | z
                  · exact z
                  · omega
              have := countJ_all hall
              omega
    · have hlv := allW_word L n v hv
      refine parts2_false fun hc => ?_
      have hvJ := all_countJ (hc.trans hlv.symm)
      rw [bare_eq_iff hlv hvJ ha hb]
      exact like_maps g.toGood hu hlv hvJ
end K74
/-! orders: how often until all is home -/
namespace K74
def lens (n : Nat) (ps : List Nat) : List Nat := (rounds (mvs n ps)).map List.length
def wordO (n : Nat) : List Nat := (List.range n).flatMap fun at' => [97 + at' % 12, 120 + at' % 3]
def xyz : List Nat := [120, 121, 122]
theorem order_is {n : Nat} {ps : List Nat} : norder n ps = common (lens n ps) * turnsOf n ps / Nat.gcd (common (lens n ps)) (turnsOf n ps) := by
  show common (lens n ps ++ [turnsOf n ps]) = _
  unfold common
  rw [List.foldl_append]
  exact Nat.div_mul_right_comm (Nat.gcd_dvd_left _ _) _
theorem lc_dvd (f x : Nat) : f ∣ f / Nat.gcd f x * x := by
  obtain ⟨y, hy⟩ := Nat.gcd_dvd_right f x
  have h := Nat.div_mul_cancel (Nat.gcd_dvd_left f x)
  refine ⟨y, ?_⟩
  conv => lhs; rhs; rw [hy]
  rw [← Nat.mul_assoc, h]
theorem fold_dvd : ∀ (ns : List Nat) (f : Nat), f ∣ ns.foldl (fun f x => f / Nat.gcd f x * x) f ∧ ∀ x ∈ ns, x ∣ ns.foldl (fun f x => f / Nat.gcd f x * x) f
  | [], f => ⟨Nat.dvd_refl _, fun _ h => absurd h List.not_mem_nil⟩
  | y :: ns, f => by
    obtain ⟨h1, h2⟩ := fold_dvd ns (f / Nat.gcd f y * y)
    refine ⟨Nat.dvd_trans (lc_dvd f y) h1, fun x hx => ?_⟩
    rcases List.mem_cons.mp hx with z | z
    · rw [z]
      exact Nat.dvd_trans (Nat.dvd_mul_left y _) h1
    · exact h2 x z
theorem common_dvd {ns : List Nat} {x : Nat} (h : x ∈ ns) : x ∣ common ns := (fold_dvd ns 1).2 x h
/-! ### home again -/
theorem lot_home {t : Nat} {lot acc : List Nat} (ht : lot.length ∣ t) {j : Nat} (hj : j < acc.length) : ∀ i, i ≤ lot.length → (j ∈ lot.take i ∨ acc.getD j 0 = j) → (oftenLotN t lot acc i).getD j 0 = j
  | 0, _, h => by
    rcases h with h | h
    · rw [List.take_zero] at h
      exact absurd h List.not_mem_nil
    · exact h
  | i + 1, hi, h => by
    show ((oftenLotN t lot acc i).set (lot.getD i 0) (lot.getD ((i + t) % lot.length) 0)).getD j 0 = j
    obtain ⟨q, hq⟩ := ht
    have e : (i + t) % lot.length = i := by
      rw [hq, Nat.add_mul_mod_self_left, Nat.mod_eq_of_lt (by omega)]
    rw [e, getD_set, oftenLotN_len]
    by_cases hx : lot.getD i 0 = j
    · rw [if_pos ⟨hx, hj⟩, hx]
    · rw [if_neg fun z => hx z.1]
      refine lot_home ⟨q, hq⟩ hj i (by omega) ?_
      refine h.imp (fun z => ?_) id
      have hget : lot[i]? = some (lot.getD i 0) := by
        rw [List.getD_eq_getElem?_getD, List.getElem?_eq_getElem (by omega)]
        rfl
      rw [take_snoc hget] at z
      rcases List.mem_append.mp z with y | y
      · exact y
      · exact absurd (List.mem_singleton.mp y).symm hx
theorem lots_home {t j : Nat} : ∀ (lots : List (List Nat)) (acc : List Nat), (∀ lot ∈ lots, lot.length ∣ t) → j < acc.length → ((∃ lot ∈ lots, j ∈ lot) ∨ acc.getD j 0 = j) → (lots.foldl (oftenLot t) acc).getD j 0 = j
  | [], acc, _, _, h => by
    rcases h with ⟨_, z, _⟩ | h
    · exact absurd z List.not_mem_nil
    · exact h
  | lot :: lots, acc, hd, hj, h => by
    rw [List.foldl_cons]
    have hlen : (oftenLot t acc lot).length = acc.length := oftenLotN_len t lot acc _
    refine lots_home lots _ (fun l hl => hd l (List.mem_cons_of_mem _ hl)) (by rw [hlen]; exact hj) ?_
    have step : (j ∈ lot ∨ acc.getD j 0 = j) → (oftenLot t acc lot).getD j 0 = j := fun z => lot_home (hd lot (List.mem_cons_self ..)) hj lot.length (Nat.le_refl _) (by rw [List.take_length]; exact z)
    rcases h with ⟨l, hl, hm⟩ | h
    · rcases List.mem_cons.mp hl with z | z
      · rw [z] at hm
        exact .inr (step (.inl hm))
      · exact .inl ⟨l, z, hm⟩
    · exact .inr (step (.inr h))
theorem often_home {n t : Nat} {ms : List Nat} (P : PermN n ms) (hd : ∀ lot ∈ rounds ms, lot.length ∣ t) : often ms t = List.range n := by
  have R := rounds_ok (ms := ms) (by rw [P.len]; exact P.lt)
  unfold often
  refine list_ext_getD (d := 0) (by rw [often_len, P.len, List.length_range]) fun j hj => ?_
  rw [often_len] at hj
  rw [lots_home (rounds ms) ms hd hj (.inl (R.cover j (R.all j hj)))]
  rw [List.getD_eq_getElem?_getD, List.getElem?_eq_getElem (by rw [List.length_range, ← P.len]; exact hj), List.getElem_range]
  rfl
theorem turnsOf_is (n : Nat) (ps : List Nat) : turnsOf n ps = (n + 1) / Nat.gcd (n + 1) (turn ps) := by
  unfold turnsOf
  rw [Nat.gcd_rec (n + 1) (turn ps), Nat.gcd_comm]
theorem home {J w : List Nat} {n : Nat} {ps : List Nat} (hf : (found J w).length = n) (hp : ∀ p ∈ ps, p < n) : put (found J w) (pieces J w) (often (mvs n ps) (norder n ps)) (turn ps * norder n ps) = w := by
  have hall : ∀ x ∈ lens n ps ++ [turnsOf n ps], x ∣ norder n ps := fun x hx => common_dvd hx
  rw [often_home (mvs_permN n ps) fun lot hl => hall _ (List.mem_append.mpr (.inl (List.mem_map.mpr ⟨lot, hl, rfl⟩)))]
  have hN : (n + 1) ∣ turn ps * norder n ps := by
    rw [gcd_dvd (Nat.succ_pos n), ← turnsOf_is]
    exact hall _ (List.mem_append.mpr (.inr (List.mem_singleton.mpr rfl)))
  have hlen : (pieces J w).length = n + 1 := by rw [pieces_len, hf]
  rw [put_inter (by rw [hlen, List.length_range])]
  have e1 : ((List.range n).map fun m => (found J w).getD m 0) = found J w := by
    rw [← hf]
    exact range_getD_id _
  rw [e1, rot_mod (b := 0) _ (by rw [hlen, Nat.mod_eq_zero_of_dvd hN, Nat.zero_mod]), rot_zero, unparted]
/-! ### the order of one number -/
def stp (n k j : Nat) : Nat := if j + k < n then j + k else if j + k = n then k - 1 else j + k - (n + 1)
theorem mvs_one {n p j : Nat} (hp : p < n) (hj : j < n) : (mvs n [p]).getD j 0 = stp n (p + 1) j := by
  show (move (List.range n) p).getD j 0 = _
  unfold move stp
  rw [List.getD_eq_getElem?_getD]
  have hr : ∀ m, m < n → (List.range n)[m]? = some m := fun m hm => by
    rw [List.getElem?_eq_getElem (by rw [List.length_range]; exact hm), List.getElem_range]
  by_cases h1 : j + (p + 1) < n
  · rw [if_pos h1, List.append_assoc, List.getElem?_append_left (by rw [List.length_drop, List.length_range]; omega), List.getElem?_drop, hr _ (by omega)]
    show p + 1 + j = _
    omega
  · rw [if_neg h1, List.append_assoc, List.getElem?_append_right (by rw [List.length_drop, List.length_range]; omega), List.length_drop, List.length_range]
    have e1 : ((List.range n).drop p).take 1 = [p] := one_at (hr p hp)
    rw [e1]
    by_cases h2 : j + (p + 1) = n
    · rw [if_pos h2, show j - (n - (p + 1)) = 0 by omega]
      rfl
    · rw [if_neg h2, List.getElem?_append_right (by rw [List.length_singleton]; omega), List.length_singleton, List.getElem?_take_of_lt (by omega), hr _ (by omega)]
      show j - (n - (p + 1)) - 1 = _
      omega
theorem chase_fuel {ms : List Nat} (hms : ∀ i, i < ms.length → ms.getD i 0 < ms.length) : ∀ (k : Nat) (here : Nat) (lot seen : List Nat), here < ms.length → unseen seen ms.length + 1 ≤ k → chase ms k here lot seen = chase ms (k + 1) here lot seen
  | 0, _, _, _, _, h => absurd h (by omega)
  | k + 1, here, lot, seen, hh, h => by
    show (if here ∈ seen then (lot, seen) else chase ms k (ms.getD here 0) (lot ++ [here]) (seen ++ [here])) = (if here ∈ seen then (lot, seen) else chase ms (k + 1) (ms.getD here 0) (lot ++ [here]) (seen ++ [here]))
    by_cases hs : here ∈ seen
    · rw [if_pos hs, if_pos hs]
    · rw [if_neg hs, if_neg hs]
      have := unseen_snoc hs ms.length
      rw [if_pos hh] at this
      exact chase_fuel hms k _ _ _ (hms _ hh) (by omega)
theorem chase_fuels {ms : List Nat} (hms : ∀ i, i < ms.length → ms.getD i 0 < ms.length) {k here : Nat} {lot seen : List Nat} (hh : here < ms.length) (h : unseen seen ms.length + 1 ≤ k) : ∀ d, chase ms k here lot seen = chase ms (k + d) here lot seen
  | 0 => rfl
  | d + 1 => by
    rw [chase_fuels hms hh h d, chase_fuel hms (k + d) here lot seen hh (by omega)]
    rfl
/-- the chase told by bits -/
def ch (n k : Nat) : Nat → Nat → Nat → Nat → Nat × Nat
  | 0, _, c, m => (c, m)
  | f + 1, h, c, m => if Nat.testBit m h = true then (c, m) else ch n k f (stp n k h) (c + 1) (m ||| 2 ^ h)
theorem ch_is {n p : Nat} (hp : p < n) : ∀ (f h : Nat) (lot seen : List Nat) (m : Nat), h < n → (∀ x, x ∈ seen ↔ Nat.testBit m x = true) →
    (ch n (p + 1) f h lot.length m).1 = (chase (mvs n [p]) f h lot seen).1.length ∧ ∀ x, x ∈ (chase (mvs n [p]) f h lot seen).2 ↔ Nat.testBit (ch n (p + 1) f h lot.length m).2 x = true
  | 0, h, lot, seen, m, _, hm => ⟨rfl, hm⟩
  | f + 1, h, lot, seen, m, hh, hm => by
    have e1 : chase (mvs n [p]) (f + 1) h lot seen = if h ∈ seen then (lot, seen) else chase (mvs n [p]) f ((mvs n [p]).getD h 0) (lot ++ [h]) (seen ++ [h]) := rfl
    have e2 : ch n (p + 1) (f + 1) h lot.length m = if Nat.testBit m h = true then (lot.length, m) else ch n (p + 1) f (stp n (p + 1) h) (lot.length + 1) (m ||| 2 ^ h) := rfl
    rw [e1, e2]
    by_cases hs : h ∈ seen
    · rw [if_pos hs, if_pos ((hm h).mp hs)]
      exact ⟨rfl, hm⟩
    · rw [if_neg hs, if_neg fun z => hs ((hm h).mpr z), mvs_one hp hh]
      have hlt : stp n (p + 1) h < n := by
        unfold stp
        split
        · assumption
        · split <;> omega
      have ih := ch_is hp f (stp n (p + 1) h) (lot ++ [h]) (seen ++ [h]) (m ||| 2 ^ h) hlt fun x => by
        rw [Nat.testBit_or, Nat.testBit_two_pow, List.mem_append, List.mem_singleton, Bool.or_eq_true, hm x, decide_eq_true_iff]
        exact or_congr Iff.rfl eq_comm
      rw [List.length_append, List.length_singleton] at ih
      exact ih
def simTo (n k : Nat) : Nat → Nat × Nat
  | 0 => (1, 0)
  | i + 1 => (if (ch n k (n + 1) i 0 (simTo n k i).2).1 = 0 then (simTo n k i).1 else (simTo n k i).1 / Nat.gcd (simTo n k i).1 (ch n k (n + 1) i 0 (simTo n k i).2).1 * (ch n k (n + 1) i 0 (simTo n k i).2).1, (ch n k (n + 1) i 0 (simTo n k i).2).2)
theorem sim_is {n p : Nat} (hp : p < n) : ∀ i, i ≤ n → common ((roundsTo (mvs n [p]) i).1.map List.length) = (simTo n (p + 1) i).1 ∧ ∀ x, x ∈ (roundsTo (mvs n [p]) i).2 ↔ Nat.testBit (simTo n (p + 1) i).2 x = true
  | 0, _ => ⟨rfl, fun x => by
    rw [show (simTo n (p + 1) 0).2 = 0 from rfl, Nat.zero_testBit]
    exact ⟨fun h => absurd h List.not_mem_nil, fun h => by cases h⟩⟩
  | i + 1, hi => by
    obtain ⟨h1, h2⟩ := sim_is hp i (by omega)
    have P := mvs_permN n [p]
    rw [roundsTo_succ]
    unfold simTo
    generalize roundsTo (mvs n [p]) i = st at h1 h2
    generalize simTo n (p + 1) i = s at h1 h2
    have hf := chase_fuels (ms := mvs n [p]) (hms_of (by rw [P.len]; exact P.lt)) (k := unseen st.2 (mvs n [p]).length + 1) (here := i) (lot := []) (seen := st.2) (by rw [P.len]; omega) (Nat.le_refl _) (n - unseen st.2 (mvs n [p]).length)
    have hu := unseen_le st.2 (mvs n [p]).length
    rw [P.len] at hu
    rw [P.len, show unseen st.2 n + 1 + (n - unseen st.2 n) = n + 1 by omega] at hf
    obtain ⟨g1, g2⟩ := ch_is hp (n + 1) i [] st.2 s.2 (by omega) h2
    unfold roundStep
    simp only [P.len]
    rw [hf]
    simp only [List.length_nil] at g1 g2
    generalize chase (mvs n [p]) (n + 1) i [] st.2 = r at g1 g2
    generalize ch n (p + 1) (n + 1) i 0 s.2 = q at g1 g2
    refine ⟨?_, g2⟩
    show common ((if r.1 = [] then st.1 else st.1 ++ [r.1]).map List.length) = if q.1 = 0 then s.1 else s.1 / Nat.gcd s.1 q.1 * q.1
    by_cases hz : r.1 = []
    · rw [if_pos hz, if_pos (by rw [g1, hz]; rfl)]
      exact h1
    · rw [if_neg hz, if_neg (by rw [g1]; exact fun z => hz (List.length_eq_zero_iff.mp z)), List.map_append]
      unfold common at h1 ⊢
      rw [List.foldl_append, h1, g1]
      rfl
def one_ok (n p : Nat) : Bool :=
  Nat.beq ((simTo n (p + 1) n).1 / Nat.gcd (simTo n (p + 1) n).1 ((n + 1) / Nat.gcd (n + 1) (p + 1)) * ((n + 1) / Nat.gcd (n + 1) (p + 1))) (((n + 1) / Nat.gcd (n + 1) (p + 1)) * ((n + 1) / Nat.gcd (n + 1) (p + 1) - 1))
theorem one_all : ((List.range 61).all fun n => (List.range n).all fun p => one_ok n p) = true := by decide +kernel
theorem one_order {n p : Nat} (hn : n ≤ 60) (hp : p < n) : norder n [p] = ((n + 1) / Nat.gcd (n + 1) (p + 1)) * ((n + 1) / Nat.gcd (n + 1) (p + 1) - 1) := by
  have h := List.all_eq_true.mp (List.all_eq_true.mp one_all n (List.mem_range.mpr (by omega))) p (List.mem_range.mpr hp)
  have h := Nat.eq_of_beq_eq_true h
  rw [← h]
  have et : turnsOf n [p] = (n + 1) / Nat.gcd (n + 1) (p + 1) := by
    rw [turnsOf_is]
    rfl
  have ec : common ((rounds (mvs n [p])).map List.length) = (simTo n (p + 1) n).1 := by
    unfold rounds
    rw [(mvs_permN n [p]).len]
    exact (sim_is hp n (Nat.le_refl _)).1
  unfold norder
  rw [et]
  unfold common at ec ⊢
  rw [List.foldl_append, ec]
  rfl
/-! ### the word of the law's own -/
theorem wordO_succ (n : Nat) : wordO (n + 1) = wordO n ++ [97 + n % 12, 120 + n % 3] := by
  unfold wordO
  rw [List.range_succ, List.flatMap_append, List.flatMap_singleton]
theorem wordO_facts : ∀ n, Low (wordO n) ∧ (wordO n).length = 2 * n ∧ (found xyz (wordO n)).length = n
  | 0 => ⟨fun _ h => absurd h List.not_mem_nil, rfl, rfl⟩
  | n + 1 => by
    obtain ⟨h1, h2, h3⟩ := wordO_facts n
    have hm := Nat.mod_lt n (show 0 < 12 by decide)
    have hk := Nat.mod_lt n (show 0 < 3 by decide)
    rw [found_len] at h3 ⊢
    rw [wordO_succ]
    generalize n % 12 = x at hm
    generalize n % 3 = y at hk
    refine ⟨fun c hc => ?_, by rw [List.length_append, h2]; rfl, ?_⟩
    · rcases List.mem_append.mp hc with z | z
      · exact h1 c z
      · simp only [List.mem_cons, List.not_mem_nil, or_false] at z
        omega
    · rw [countJ_app, h3]
      have e1 : 97 + x ∉ xyz := by
        simp only [xyz, List.mem_cons, List.not_mem_nil, or_false]
        omega
      have e2 : 120 + y ∈ xyz := by
        simp only [xyz, List.mem_cons, List.not_mem_nil, or_false]
        omega
      unfold countJ
      rw [List.filter_cons_of_neg (by simpa using e1), List.filter_cons_of_pos (by simpa using e2)]
      rfl
end K74
/-! the mathematics, all (K74M, S, U, V, W, X) -/
/-! walks: _law_small_right, _law_great_right, _law_orders_right -/
namespace K74
open PySem PySem.Spec PyProof.Rows L2 Evl
/-! ### repr of a text or None -/
def reprO (v : V) : Str := match v with
  | .str z => reprText z
  | _ => "None"
def okR (v : V) : Prop := v = .non ∨ ∃ l : List Nat, v = sv l ∧ l.length ≤ 1000 ∧ ∀ c ∈ l, c < 123
def rReprO : List V → Hp → VK → Prop := fun xs H Q => ∃ v, xs = [v] ∧ okR v ∧ Q (.str (reprO v)) H
theorem call_reprO {X : Cx} : CallR X (.builtin "repr") rReprO := fun pn st sg Hh xs us Qq Iv rr ⟨v, e, h, q⟩ => by
  rcases h with rfl | ⟨l, rfl, hl, hc⟩
  · exact call_reprN pn st sg Hh xs us Qq Iv rr ⟨e, q⟩
  · refine call_reprS pn st sg Hh xs us Qq Iv rr ⟨l, e, ?_, q⟩
    have h1 := PySem.StrLaws.reprText_len (mkS l) fun c hcm => by
      rw [mkS_cps] at hcm
      have := hc c hcm
      omega
    rw [mkS_len] at h1
    have := sizeLine_eq
    omega
section
variable {K : PySem.W.Frag} {σ : L2.St} {H H' : Hp} {ta tb tc te tx : TE} {x y z v : V} {D : Ends} {g : TG} {tu tz : TS}
theorem ev_callK {sp : Sp} {zs : List V} {g : {α : Type} → List α → List α} {t : TA} (h : EvA t σ H zs) (hs : SpV sp (g zs) H z) : Ev (fun σ H Q => t σ H fun zs H1 => sp (g zs) H1 Q E0) σ H z := fun H1 e Q q =>
  h H1 e _ fun H2 e2 => hs H2 (e.trans e2) Q (fun H3 e3 => q H3 (e2.trans e3)) E0
theorem ev_repr (h : Ev te σ H v) (ok : okR v) : Ev (tCB rReprO (tCons te tNil)) σ H (.str (reprO v)) := fun H1 e Q q => h H1 e _ fun H2 e2 => ⟨v, rfl, ok, q H2 e2⟩
/-- arguments that are new pairs of texts -/
def EvPs (t : TA) (σ : L2.St) (H : Hp) (ps : List (List Nat × List Nat)) : Prop := ∀ H1, Ex H H1 → ∀ Q : List V → Hp → Prop, (∀ Ts H2, Ex H1 H2 → (∀ T ∈ Ts, H1 T = none) → Paired (fun T (p : List Nat × List Nat) => H2 T = some (.tup [sv p.1, sv p.2])) Ts ps → Q (Ts.map V.ref) H2) → t σ H1 Q
theorem eps_nil : EvPs tNil σ H [] := fun H1 _ Q q => q [] H1 (Ex.refl H1) (fun _ h => absurd h List.not_mem_nil) .nil
theorem Paired.imp {α β : Type} {F G : α → β → Prop} : ∀ {l₁ : List α} {l₂ : List β}, Paired F l₁ l₂ → (∀ a b, F a b → G a b) → Paired G l₁ l₂
  | _, _, .nil, _ => .nil
  | _, _, .cons h t, f => .cons (f _ _ h) (Paired.imp t f)
theorem Paired.at {α β : Type} {F : α → β → Prop} : ∀ {l₁ : List α} {l₂ : List β} {i : Nat}, Paired F l₁ l₂ → i < l₂.length → ∃ a b, l₁[i]? = some a ∧ l₂[i]? = some b ∧ F a b
  | _, _, _, .nil, h => absurd h (Nat.not_lt_zero _)
  | _, _, 0, .cons h _, _ => ⟨_, _, rfl, rfl, h⟩
  | _, _, i + 1, .cons _ t, h => by
    obtain ⟨a, b, h1, h2, h3⟩ := Paired.at (i := i) t (Nat.lt_of_succ_lt_succ h)
    exact ⟨a, b, by simpa using h1, by simpa using h2, h3⟩
theorem eps_cons {t : TA} {a b : List Nat} {ps : List (List Nat × List Nat)} (h1 : Ev ta σ H (sv a)) (h2 : Ev tb σ H (sv b)) (h : EvPs t σ H ps) : EvPs (tCons (tTup (tCons ta (tCons tb tNil))) t) σ H ((a, b) :: ps) := fun H1 e Q q =>
  h1 H1 e _ fun H2 e2 => h2 H2 (e.trans e2) _ fun H3 e3 => ⟨(by show 2 ≤ sizeLine; decide), fun T nT => h _ ((e.trans (e2.trans e3)).trans (Ex.new nT)) _ fun Ts H4 e4 n4 p4 => q (T :: Ts) H4 (((e2.trans e3).trans (Ex.new nT)).trans e4) (fun U hU => by
    rcases List.mem_cons.mp hU with rfl | hU
    · exact fresh_back (e2.trans e3) nT
    · exact fresh_back ((e2.trans e3).trans (Ex.new nT)) (n4 U hU)) (.cons (e4 _ _ upd_same) p4)⟩
/-- joints, letters = [(..), ..][draw] -/
theorem q_menu {g : Addr} {c b i j : Nat} {t : TA} {ps : List (List Nat × List Nat)} (h : EvPs t σ H ps) (hb : ps.length = b) (hs : b ≤ 100) (hg : Gen g c H) (hr : ∀ H1, Ex H H1 → EvR g c b te σ H1)
    (k : ∀ J L H1, (J, L) ∈ ps → ExG g H H1 → Gen g (c + 1) H1 → tz D ((σ.set i (some (sv J))).set j (some (sv L))) H1) :
    tSeq (tAsg (tOp (rIxL K) (tLst t) te) (gTup K 2 (gCons (gName i) (gCons (gName j) gNil)))) tz D σ H :=
  h H (Ex.refl H) _ fun Ts H1 e1 n1 p1 => by
    have hl := Paired.length p1
    refine ⟨sz_of (by rw [List.length_map]; omega), fun p np => ?_⟩
    have e2 : Ex H (upd H1 p (.lst (Ts.map V.ref))) := e1.trans (Ex.new np)
    refine hr _ e2 _ (Ex.refl _) _ fun r H2 hr2 e3 g3 => ?_
    obtain ⟨T, pr, h1, h2, h3⟩ := Paired.at (i := r) p1 (by omega)
    have hpg : p ≠ g := (hg.ex e1).ne np
    have hTg : T ≠ g := hg.ne (n1 T (List.mem_of_getElem? h1))
    have hp2 := e3 _ _ hpg upd_same
    have hT2 := e3 _ _ hTg (Ex.new np _ _ h3)
    refine ⟨p, Ts.map V.ref, (r : Int), .ref T, rfl, rfl, sq_of hp2, atI_nat (by rw [List.getElem?_map, h1]; rfl), ?_⟩
    exact ⟨T, _, rfl, .inl (.inl hT2), rfl, _, _, rfl, _, _, rfl, rfl, k pr.1 pr.2 H2 (List.mem_of_getElem? h2) ((ExG.of e2).trans e3) g3⟩
/-- joints = [..][draw] -/
theorem q_menu1 {g : Addr} {c b i : Nat} {xs : List (List Nat)} (h : EvL ta σ H (svs xs)) (hb : xs.length = b) (hg : Gen g c H) (hr : ∀ H1, Ex H H1 → EvR g c b te σ H1)
    (k : ∀ J H1, J ∈ xs → ExG g H H1 → Gen g (c + 1) H1 → tz D (σ.set i (some (sv J))) H1) : tSeq (tAsg (tOp (rIxL K) ta te) (gName i)) tz D σ H :=
  h H (Ex.refl H) _ fun p H1 np e1 hp => hr _ e1 _ (Ex.refl _) _ fun r H2 hr2 e3 g3 => by
    have hpg : p ≠ g := hg.ne np
    obtain ⟨J, hJ⟩ : ∃ J, xs[r]? = some J := ⟨_, List.getElem?_eq_getElem (by omega)⟩
    exact ⟨p, _, (r : Int), sv J, rfl, rfl, sq_of (e3 _ _ hpg hp), atI_nat (svs_get hJ), k J H2 (List.mem_of_getElem? hJ) ((ExG.of e1).trans e3) g3⟩
/-- low, high = two(..) -/
theorem q_two {g : Addr} {c n i j : Nat} {E : XK} (h1 : Ev ta σ H (.ref g)) (h2 : Ev tb σ H (.int (n : Int))) (hn : n ≤ 60) (hg : Gen g c H) (hc : c ≤ 50000)
    (k : ∀ p q xs ys H1, H p = none → H q = none → ExG g H H1 → Gen g (c + 100) H1 → H1 p = some (.lst (iv xs)) → H1 q = some (.lst (iv ys)) → xs.length ≤ 10000 → ys.length ≤ 10000 → (∀ x ∈ xs, x < n) → (∀ x ∈ ys, x < n) → tz D ((σ.set i (some (.ref p))).set j (some (.ref q))) H1) :
    tSeq (tAsg (tCall sp_two [] E (tCons ta (tCons tb tNil))) (gTup K 2 (gCons (gName i) (gCons (gName j) gNil)))) tz D σ H :=
  h1 H (Ex.refl H) _ fun H1 e1 => h2 H1 e1 _ fun H2 e2 => ⟨g, n, c, rfl, hn, hg.ex (e1.trans e2), hc, fun T p q xs ys H3 nT np nq e3 g3 hT hp hq lx ly hx hy =>
    ⟨T, _, rfl, .inl (.inl hT), rfl, _, _, rfl, _, _, rfl, rfl, k p q xs ys H3 (fresh_back (e1.trans e2) np) (fresh_back (e1.trans e2) nq) ((ExG.of (e1.trans e2)).trans e3) g3 hp hq lx ly hx hy⟩⟩
end
def sp_small_right : Sp := fun vs H Q _ => ∃ (g : Addr) (c : Nat), vs = [.ref g] ∧ Gen g c H ∧ c ≤ 40000 ∧ ∀ H2, ExG g H H2 → Gen g (c + 200) H2 → Q (.bl true) H2
def sp_great_right : Sp := fun vs H Q _ => ∃ (g : Addr) (n c : Nat), vs = [.ref g, .int (n : Int)] ∧ 1 ≤ n ∧ n ≤ 60 ∧ Gen g c H ∧ c ≤ 40000 ∧ ∀ H2, ExG g H H2 → Gen g (c + 200) H2 → Q (.bl true) H2
theorem allW_letters (L : List Nat) : ∀ n, ∀ w ∈ allW L n, ∀ c ∈ w, c ∈ L
  | 0, w, h => by
    rw [List.mem_singleton.mp h]
    exact fun _ hc => absurd hc List.not_mem_nil
  | n + 1, w, h => by
    obtain ⟨v, hv, h2⟩ := List.mem_flatMap.mp h
    obtain ⟨c, hc, rfl⟩ := List.mem_map.mp h2
    intro x hx
    rcases List.mem_append.mp hx with z | z
    · exact allW_letters L n v hv x z
    · rw [List.mem_singleton.mp z]
      exact hc
theorem okR_first {J L : List Nat} {n : Nat} {a b : List Nat} (hn : n ≤ 60) (hL : ∀ c ∈ L, c < 123) : okR (os (firstW J n a b L)) := by
  cases h : firstW J n a b L with
  | none => exact .inl rfl
  | some w =>
    have hm := List.mem_of_find?_eq_some h
    refine .inr ⟨w, rfl, ?_, fun c hc => ?_⟩
    · rcases List.mem_append.mp hm with z | z
      · have := allW_word L n w z
        omega
      · have := allW_word L (n + 1) w z
        omega
    · rcases List.mem_append.mp hm with z | z
      · exact hL c (allW_letters L n w z c hc)
      · exact hL c (allW_letters L (n + 1) w z c hc)
theorem rise_of {l : List Nat} (h : l.Pairwise (· < ·)) : Rise l := fun i a b ha hb => by
  obtain ⟨h1, rfl⟩ := List.getElem?_eq_some_iff.mp ha
  obtain ⟨h2, rfl⟩ := List.getElem?_eq_some_iff.mp hb
  exact List.pairwise_iff_getElem.mp h i (i + 1) h1 h2 (Nat.lt_succ_self i)
theorem low_of {l : List Nat} (h : (l.all fun c => decide (97 ≤ c) && decide (c < 123)) = true) : Low l := fun c hc => by
  have := List.all_eq_true.mp h c hc
  rw [Bool.and_eq_true] at this
  exact ⟨of_decide_eq_true this.1, of_decide_eq_true this.2⟩
theorem low_pl {J L : List Nat} (h : (J, L) ∈ PLs) : Low J ∧ Rise J ∧ J.length ≤ 100 ∧ L.length ≤ 3 ∧ ∀ c ∈ L, c < 123 := by
  simp only [PLs, List.mem_cons, Prod.mk.injEq, List.not_mem_nil, or_false] at h
  rcases h with ⟨rfl, rfl⟩ | ⟨rfl, rfl⟩ | ⟨rfl, rfl⟩ | ⟨rfl, rfl⟩ | ⟨rfl, rfl⟩ <;> exact ⟨low_of (by decide), rise_of (by decide), by decide, by decide, by decide⟩
section
variable {P : Program} {w : World} {K : PySem.W.Frag} {mg : Str → Option Value} {base : Heap}
theorem ok_small_right (D : Dfn K mg "_law_small_right" s_small_right p_small_right) (B : Bt mg) (c_random : Cal P w K mg base "_law_random" p_random 2 sp_random) (c_two : Cal P w K mg base "_law_two" p_two 4 sp_two) (c_first : Cal P w K mg base "_law_first" p_first 3 sp_first)
    (c_numbers_parting : Cal P w K mg base "numbers_parting" p_numbers_parting 5 sp_numbers_parting) (ck_numbers_parting : CalK P w K mg base "numbers_parting" p_numbers_parting ["other", "one", "count", "joints"] (fun l => l.reverse) 5 sp_numbers_parting) : Cal P w K mg base "_law_small_right" p_small_right 6 sp_small_right := by
  refine D.cal sc_small_right (fun vs H Q E h => ?_) (fun f cdv A outer s H vs Q E hr h => ?_)
  · obtain ⟨g, c, rfl, _⟩ := h
    rfl
  · obtain ⟨g, c, rfl, hg, hc, q⟩ := h
    have nd := sc_small_right.nd
    refine ⟨_, (pss_cons (ps_asg (pe_ix (r := rIxL K) ix_list (pe_lst (pa_cons (pe_tup (pa_cons pe_str (pa_cons pe_str pa_nil))) (pa_cons (pe_tup (pa_cons pe_str (pa_cons pe_str pa_nil))) (pa_cons (pe_tup (pa_cons pe_str (pa_cons pe_str pa_nil))) (pa_cons (pe_tup (pa_cons pe_str (pa_cons pe_str pa_nil))) (pa_cons (pe_tup (pa_cons pe_str (pa_cons pe_str pa_nil))) pa_nil)))))) (pe_cal c_random (hr.mono (by decide)) (by rfl) (pa_cons (pv 0) (pa_cons pe_int pa_nil))) (fun _ _ => rfl)) (pg_tup rfl (pgs_cons (pg_name (i := 1) nd rfl (Or.inl rfl)) (pgs_cons (pg_name (i := 2) nd rfl (Or.inl rfl)) pgs_nil))))
      (pss_cons (ps_set (i := 3) nd rfl (Or.inl rfl) (pe_cal c_random (hr.mono (by decide)) (by rfl) (pa_cons (pv 0) (pa_cons pe_int pa_nil))))
      (pss_cons (ps_asg (pe_cal c_two (hr.mono (by decide)) (by rfl) (pa_cons (pv 0) (pa_cons (pv 3) pa_nil))) (pg_tup rfl (pgs_cons (pg_name (i := 4) nd rfl (Or.inl rfl)) (pgs_cons (pg_name (i := 5) nd rfl (Or.inl rfl)) pgs_nil))))
      (pss_cons (ps_set (i := 6) nd rfl (Or.inl rfl) (pe_cal c_first (hr.mono (by decide)) (by rfl) (pa_cons (pv 1) (pa_cons (pv 3) (pa_cons (pv 4) (pa_cons (pv 5) (pa_cons (pv 2) pa_nil)))))))
      (pss_cons (ps_if (pt_cmpR op_ne (pe_callB call_reprO (by rfl) B.n_repr (by decide +kernel) (pa_cons (pe_cal c_numbers_parting (hr.mono (by decide)) (by rfl) (pa_cons (pv 1) (pa_cons (pv 3) (pa_cons (pv 4) (pa_cons (pv 5) pa_nil))))) pa_nil)) (pe_callB call_reprO (by rfl) B.n_repr (by decide +kernel) (pa_cons (pv 6) pa_nil)) (nomark _))
        (pss_one (ps_ret pe_bl))
        pss_nil)
      (pss_one (ps_ret (pe_cmpR op_eq (pe_callB call_reprO (by rfl) B.n_repr (by decide +kernel) (pa_cons (pe_calK ck_numbers_parting (hr.mono (by decide)) (by rfl) (pk_cons (pv 4) (pk_cons (pv 5) (pk_cons (pv 3) (pk_cons (pv 1) pk_nil))))) pa_nil)) (pe_callB call_reprO (by rfl) B.n_repr (by decide +kernel) (pa_cons (pv 6) pa_nil)) (nomark _)))))))))
      , ?_⟩
    refine q_menu (b := 5) (ps := PLs) (eps_cons (ev_is ev_c (by decide +kernel)) (ev_is ev_c (by decide +kernel)) (eps_cons (ev_is ev_c (by decide +kernel)) (ev_is ev_c (by decide +kernel)) (eps_cons (ev_is ev_c (by decide +kernel)) (ev_is ev_c (by decide +kernel)) (eps_cons (ev_is ev_c (by decide +kernel)) (ev_is ev_c (by decide +kernel)) (eps_cons (ev_is ev_c (by decide +kernel)) (ev_is ev_c (by decide +kernel)) eps_nil))))) rfl (by omega) hg (fun H1 e1 => er_call (b := 5) (ev_var rfl) ev_c (by omega) (by omega) (hg.ex e1) (by omega)) fun J L H1 hJL e1 g1 => ?_
    refine q_draw (er_call (b := 5) (ev_var rfl) ev_c (by omega) (by omega) g1 (by omega)) fun n H2 hn e2 g2 => ?_
    refine q_two (n := n) (ev_var rfl) (ev_var rfl) (by omega) g2 (by omega) fun p r xs ys H3 np nr e3 g3 hp hr3 lx ly hx hy => ?_
    obtain ⟨l1, l2, l3, l4, l5⟩ := low_pl hJL
    have hf := first_is hJL hx hy
    refine q_asg (v := os (firstW J n xs ys L)) (ev_call (vs := [sv J, .int (n : Int), .ref p, .ref r, sv L]) (ea_cons (ev_var rfl) (ea_cons (ev_var rfl) (ea_cons (ev_var rfl) (ea_cons (ev_var rfl) (ea_cons (ev_var rfl) ea_nil))))) (SpV.of fun H4 e4 Q E q => ⟨J, n, p, r, xs, ys, L, rfl, e4 _ _ hp, e4 _ _ hr3, l4, by omega, hx, hy, q⟩)) fun H4 e4 => ?_
    have hok : okR (os (firstW J n xs ys L)) := okR_first (by omega) l5
    refine q_when (b := false) (et_test (ev_is (ev_op (x := .str (reprO (os (firstW J n xs ys L)))) (y := .str (reprO (os (firstW J n xs ys L)))) (ev_repr (ev_call (vs := [sv J, .int (n : Int), .ref p, .ref r]) (ea_cons (ev_var rfl) (ea_cons (ev_var rfl) (ea_cons (ev_var rfl) (ea_cons (ev_var rfl) ea_nil)))) (SpV.of fun H5 e5 Q E q => ⟨J, n, p, r, xs, ys, rfl, (e4.trans e5) _ _ hp, (e4.trans e5) _ _ hr3, l1, l2, l3, by omega, lx, ly, hx, hy, by rw [← hf]; exact q⟩)) hok) (ev_repr (ev_var rfl) hok) (rv_ne rfl)) (by simp))) (fun z => by cases z) fun _ H5 e5 => ?_
    have hf2 := first_is hJL hy hx
    rw [firstW_symm] at hf2
    refine s_ret (v := .bl true) (ev_is (ev_op (x := .str (reprO (os (firstW J n xs ys L)))) (y := .str (reprO (os (firstW J n xs ys L)))) (ev_repr (ev_callK (zs := [.ref p, .ref r, .int (n : Int), sv J]) (ea_cons (ev_var rfl) (ea_cons (ev_var rfl) (ea_cons (ev_var rfl) (ea_cons (ev_var rfl) ea_nil)))) (SpV.of fun H6 e6 Q E q => ⟨J, n, r, p, ys, xs, rfl, ((e4.trans e5).trans e6) _ _ hr3, ((e4.trans e5).trans e6) _ _ hp, l1, l2, l3, by omega, ly, lx, hy, hx, by rw [← hf2]; exact q⟩)) hok) (ev_repr (ev_var rfl) hok) (rv_eq rfl)) (by simp)) fun H6 e6 => q H6 (((((e1.trans e2).trans e3).ex e4).ex e5).ex e6) ((((g3.ex e4).ex e5).ex e6).mono (by omega))
theorem low_jg {J : List Nat} (h : J ∈ JGs) : Low J ∧ Rise J ∧ J.length ≤ 100 := by
  simp only [JGs, List.mem_cons, List.not_mem_nil, or_false] at h
  rcases h with rfl | rfl | rfl <;> exact ⟨low_of (by decide), rise_of (by decide), by decide⟩
theorem ok_great_right (D : Dfn K mg "_law_great_right" s_great_right p_great_right) (B : Bt mg) (c_count : Cal P w K mg base "_law_count" p_count 1 sp_count) (c_moves : Cal P w K mg base "_law_moves" p_moves 2 sp_moved_by) (c_random : Cal P w K mg base "_law_random" p_random 2 sp_random) (c_turn : Cal P w K mg base "_law_turn" p_turn 1 sp_turn)
    (c_two : Cal P w K mg base "_law_two" p_two 4 sp_two) (c_done_by_numbers : Cal P w K mg base "done_by_numbers" p_done_by_numbers 5 sp_done) (c_numbers_parting : Cal P w K mg base "numbers_parting" p_numbers_parting 5 sp_numbers_parting) : Cal P w K mg base "_law_great_right" p_great_right 6 sp_great_right := by
  refine D.cal sc_great_right (fun vs H Q E h => ?_) (fun f cdv A outer s H vs Q E hr h => ?_)
  · obtain ⟨g, n, c, rfl, _⟩ := h
    rfl
  · obtain ⟨g, n, c, rfl, n1, n2, hg, hc, q⟩ := h
    have nd := sc_great_right.nd
    refine ⟨_, (pss_cons (ps_asg (pe_cal c_two (hr.mono (by decide)) (by rfl) (pa_cons (pv 0) (pa_cons (pv 1) pa_nil))) (pg_tup rfl (pgs_cons (pg_name (i := 2) nd rfl (Or.inl rfl)) (pgs_cons (pg_name (i := 3) nd rfl (Or.inl rfl)) pgs_nil))))
      (pss_cons (ps_set (i := 4) nd rfl (Or.inl rfl) (pe_ix (r := rIxL K) ix_list (pe_lst (pa_cons pe_str (pa_cons pe_str (pa_cons pe_str pa_nil)))) (pe_cal c_random (hr.mono (by decide)) (by rfl) (pa_cons (pv 0) (pa_cons pe_int pa_nil))) (fun _ _ => rfl)))
      (pss_cons (ps_set (i := 5) nd rfl (Or.inl rfl) (pe_cal c_numbers_parting (hr.mono (by decide)) (by rfl) (pa_cons (pv 4) (pa_cons (pv 1) (pa_cons (pv 2) (pa_cons (pv 3) pa_nil))))))
      (pss_cons (ps_set (i := 6) nd rfl (Or.inl rfl) (pe_and (pe_cmpR (op_neD (hu64 hr)) (pe_cal c_moves (hr.mono (by decide)) (by rfl) (pa_cons (pv 1) (pa_cons (pv 2) pa_nil))) (pe_cal c_moves (hr.mono (by decide)) (by rfl) (pa_cons (pv 1) (pa_cons (pv 3) pa_nil))) (nomark _)) (pe_one (pe_cmpR op_gt (pe_callB call_lenT (by rfl) B.n_len (by decide +kernel) (pa_cons (pv 4) pa_nil)) pe_int (nomark _)))))
      (pss_cons (ps_if (pt_cmpR op_ne (pe_cmpR op_isN (pv 5) pe_non (nomark _)) (pe_and (pe_not (pv 6)) (pe_one (pe_cmpR op_eq (pe_cal c_turn (hr.mono (by decide)) (by rfl) (pa_cons (pv 2) (pa_cons (pv 1) pa_nil))) (pe_cal c_turn (hr.mono (by decide)) (by rfl) (pa_cons (pv 3) (pa_cons (pv 1) pa_nil))) (nomark _)))) (nomark _))
        (pss_one (ps_ret pe_bl))
        pss_nil)
      (pss_cons (ps_if (PW.pt (pw_and (pt_cmpR op_notN (pv 5) pe_non (nomark _)) (pw_and1 (pt_cmpR op_eq (pe_cal c_done_by_numbers (hr.mono (by decide)) (by rfl) (pa_cons (pv 5) (pa_cons (pv 4) (pa_cons (pv 2) pa_nil)))) (pe_cal c_done_by_numbers (hr.mono (by decide)) (by rfl) (pa_cons (pv 5) (pa_cons (pv 4) (pa_cons (pv 3) pa_nil)))) (nomark _)))))
        (pss_one (ps_ret pe_bl))
        pss_nil)
      (pss_one (ps_ret (pe_or (pe_cmpR op_isN (pv 5) pe_non (nomark _)) (pe_one (pe_and (pe_cmpR op_eq (pe_cal c_count (hr.mono (by decide)) (by rfl) (pa_cons (pv 5) (pa_cons (pv 4) pa_nil))) (pv 1) (nomark _)) (pe_one (pe_cmpR op_eq (pe_callB call_lenT (by rfl) B.n_len (by decide +kernel) (pa_cons (pv 5) pa_nil)) (pe_op op_add (pv 1) (pe_callTy call_int1 (by rfl) B.n_int (by decide +kernel) (pa_cons (pe_not (pv 6)) pa_nil))) (nomark _))))))))))))))
      , ?_⟩
    refine q_two (n := n) (ev_var rfl) (ev_var rfl) n2 hg (by omega) fun p r xs ys H1 np nr e1 g1 hp hr1 lx ly hx hy => ?_
    refine q_menu1 (b := 3) (xs := JGs) (el_lst (vs := svs JGs) (ea_cons (ev_is ev_c (by decide +kernel)) (ea_cons (ev_is ev_c (by decide +kernel)) (ea_cons (ev_is ev_c (by decide +kernel)) ea_nil))) (by decide)) rfl g1 (fun H2 e2 => er_call (b := 3) (ev_var rfl) ev_c (by omega) (by omega) (g1.ex e2) (by omega)) fun J H2 hJ e2 g2 => ?_
    have npg : p ≠ g := hg.ne np
    have nrg : r ≠ g := hg.ne nr
    have hp2 := e2 _ _ npg hp
    have hr2 := e2 _ _ nrg hr1
    obtain ⟨l1, l2, l3⟩ := low_jg hJ
    refine q_asg (v := os (npart J n xs ys)) (ev_call (vs := [sv J, .int (n : Int), .ref p, .ref r]) (ea_cons (ev_var rfl) (ea_cons (ev_var rfl) (ea_cons (ev_var rfl) (ea_cons (ev_var rfl) ea_nil)))) (SpV.of fun H3 e3 Q E q => ⟨J, n, p, r, xs, ys, rfl, e3 _ _ hp2, e3 _ _ hr2, l1, l2, l3, n2, lx, ly, hx, hy, q⟩)) fun H3 e3 => ?_
    have hp3 := e3 _ _ hp2
    have hr3 := e3 _ _ hr2
    have g3 := g2.ex e3
    have E3 : ExG g H H3 := (e1.trans e2).ex e3
    generalize hlow : npart J n xs ys = told
    have hdl : decide ((1 : Int) < (J.length : Int)) = decide (1 < J.length) := by
      by_cases h : 1 < J.length
      · rw [decide_eq_true h, decide_eq_true (by omega)]
      · rw [decide_eq_false h, decide_eq_false (by omega)]
    refine q_asg (v := .bl (unlk J n xs ys)) (ev_andV (ev_neI (el_call (vs := [.int (n : Int), .ref p]) (ea_cons (ev_var rfl) (ea_cons (ev_var rfl) ea_nil)) (SpL.of fun H4 e4 Q E q => ⟨n, p, xs, rfl, e4 _ _ hp3, n2, hx, q⟩)) (el_call (vs := [.int (n : Int), .ref r]) (ea_cons (ev_var rfl) (ea_cons (ev_var rfl) ea_nil)) (SpL.of fun H4 e4 Q E q => ⟨n, r, ys, rfl, e4 _ _ hr3, n2, hy, q⟩))) fun _ => ev_is (ev_op (ev_lenT (ev_var rfl) (by omega)) ev_c rv_I0) (congrArg V.bl hdl)) fun H4 e4 => ?_
    have hp4 := e4 _ _ hp3
    have hr4 := e4 _ _ hr3
    have G := great_none hJ hx hy
    rw [hlow] at G
    have hne : decide ((turn xs % (n + 1) : Nat) = (turn ys % (n + 1) : Nat)) = decide (((turn xs % (n + 1) : Nat) : Int) = ((turn ys % (n + 1) : Nat) : Int)) := by
      by_cases h : turn xs % (n + 1) = turn ys % (n + 1)
      · rw [decide_eq_true h, decide_eq_true (by omega)]
      · rw [decide_eq_false h, decide_eq_false (by omega)]
    have tR : Ev (tAndV (tNotV (tVar 6)) (tOp rEq (tCall sp_turn [] E0 (tCons (tVar 2) (tCons (tVar 1) tNil))) (tCall sp_turn [] E0 (tCons (tVar 3) (tCons (tVar 1) tNil))))) [some (.ref g), some (.int (n : Int)), some (.ref p), some (.ref r), some (sv J), some (os told), some (.bl (unlk J n xs ys))] H4 (.bl (!unlk J n xs ys && decide ((turn xs % (n + 1) : Nat) = (turn ys % (n + 1) : Nat)))) := by
      rw [hne]
      exact ev_andV (ev_notV (ev_var rfl)) fun _ => ev_intEq (ev_call (vs := [.ref p, .int (n : Int)]) (ea_cons (ev_var rfl) (ea_cons (ev_var rfl) ea_nil)) (SpV.of fun H5 e5 Q E q => ⟨p, xs, n, rfl, e5 _ _ hp4, lx, q⟩)) (ev_call (vs := [.ref r, .int (n : Int)]) (ea_cons (ev_var rfl) (ea_cons (ev_var rfl) ea_nil)) (SpV.of fun H5 e5 Q E q => ⟨r, ys, n, rfl, e5 _ _ hr4, ly, q⟩))
    have tN : ∀ H5, Ev (tOp (fun x y H Q => y = .non ∧ Q (.bl (decide (x = .non))) H) (tVar 5) (tC .non)) [some (.ref g), some (.int (n : Int)), some (.ref p), some (.ref r), some (sv J), some (os told), some (.bl (unlk J n xs ys))] H5 (.bl (decide (told = none))) := fun H5 => by
      have e : decide (os told = .non) = decide (told = none) := by
        cases told with
        | none => rfl
        | some w => rfl
      rw [← e]
      exact ev_op (x := os told) (ev_var rfl) ev_c fun H2 _ Q q => ⟨rfl, q H2 (Ex.refl H2)⟩
    have hb1 : decide (told = none) = (!unlk J n xs ys && decide ((turn xs % (n + 1) : Nat) = (turn ys % (n + 1) : Nat))) := by
      rw [Bool.eq_iff_iff, decide_eq_true_eq, Bool.and_eq_true, decide_eq_true_eq, Bool.not_eq_true', G]
    refine q_when (b := false) (et_test (ev_is (ev_op (tN H4) tR (rv_ne rfl)) (by rw [hb1]; simp))) (fun z => by cases z) fun _ H5 e5 => ?_
    have hp5 := e5 _ _ hp4
    have hr5 := e5 _ _ hr4
    have E5 : ExG g H H5 := (E3.ex e4).ex e5
    have g5 := (g3.ex e4).ex e5
    have tM : ∀ H6, Ev (tOp (fun x y H Q => y = .non ∧ Q (.bl (!decide (x = .non))) H) (tVar 5) (tC .non)) [some (.ref g), some (.int (n : Int)), some (.ref p), some (.ref r), some (sv J), some (os told), some (.bl (unlk J n xs ys))] H6 (.bl (!decide (told = none))) := fun H6 => by
      have e : decide (os told = .non) = decide (told = none) := by
        cases told with
        | none => rfl
        | some w => rfl
      rw [← e]
      exact ev_op (x := os told) (ev_var rfl) ev_c fun H2 _ Q q => ⟨rfl, q H2 (Ex.refl H2)⟩
    cases told with
    | none =>
      refine q_when (b := false) (et_is (et_and (b := false) (et_test (tM H5)) fun z => by cases z) rfl) (fun z => by cases z) fun _ H6 e6 => ?_
      exact s_ret (v := .bl true) (ev_orV (a := true) (b := true) (tN H6) fun z => by cases z) fun H7 e7 => q H7 ((E5.ex e6).ex e7) (((g5.ex e6).ex e7).mono (by omega))
    | some w =>
      obtain ⟨w1, w2, w3, w4, w5⟩ := great_some hJ hx hy hlow
      have hwl : w.length ≤ 61 := by
        rw [w2]
        split <;> omega
      have tD : Ev (tOp rEq (tCall sp_done [] E0 (tCons (tVar 5) (tCons (tVar 4) (tCons (tVar 2) tNil)))) (tCall sp_done [] E0 (tCons (tVar 5) (tCons (tVar 4) (tCons (tVar 3) tNil))))) [some (.ref g), some (.int (n : Int)), some (.ref p), some (.ref r), some (sv J), some (sv w), some (.bl (unlk J n xs ys))] H5 (.bl false) := by
        refine ev_is (ev_strEq (a := put (found J w) (pieces J w) (mvs n xs) (turn xs)) (b := put (found J w) (pieces J w) (mvs n ys) (turn ys)) (ev_call (vs := [sv w, sv J, .ref p]) (ea_cons (ev_var rfl) (ea_cons (ev_var rfl) (ea_cons (ev_var rfl) ea_nil))) (SpV.of fun H6 e6 Q E q => ⟨w, J, p, xs, rfl, e6 _ _ hp5, w1, by omega, l1, l2, by omega, by omega, lx, by rw [w4]; exact hx, by rw [w4]; exact q⟩)) (ev_call (vs := [sv w, sv J, .ref r]) (ea_cons (ev_var rfl) (ea_cons (ev_var rfl) (ea_cons (ev_var rfl) ea_nil))) (SpV.of fun H6 e6 Q E q => ⟨w, J, r, ys, rfl, e6 _ _ hr5, w1, by omega, l1, l2, by omega, by omega, ly, by rw [w4]; exact hy, by rw [w4]; exact q⟩))) ?_
        rw [decide_eq_false w5]
      refine q_when (b := false) (et_is (et_and (b := false) (et_test (tM H5)) fun _ => et_test tD) rfl) (fun z => by cases z) fun _ H6 e6 => ?_
      have E6 := E5.ex e6
      have t1 : Ev (tOp rEq (tCall sp_count [] E0 (tCons (tVar 5) (tCons (tVar 4) tNil))) (tVar 1)) [some (.ref g), some (.int (n : Int)), some (.ref p), some (.ref r), some (sv J), some (sv w), some (.bl (unlk J n xs ys))] H6 (.bl true) := by
        refine ev_is (ev_intEq (ev_call (vs := [sv w, sv J]) (ea_cons (ev_var rfl) (ea_cons (ev_var rfl) ea_nil)) (SpV.of fun H7 _ Q E q => ⟨w, J, rfl, by omega, q⟩)) (ev_var rfl)) ?_
        rw [w3, decide_eq_true rfl]
      have t2 : Ev (tOp rEq (tCB rLenT (tCons (tVar 5) tNil)) (tOp (rI0 fun i j => V.int (i + j)) (tVar 1) (tCB (fun xs H Q => (∃ i, xs = [V.int i] ∧ Q (V.int i) H) ∨ ∃ k, xs = [V.bl k] ∧ Q (V.int (if k = true then 1 else 0)) H) (tCons (tNotV (tVar 6)) tNil)))) [some (.ref g), some (.int (n : Int)), some (.ref p), some (.ref r), some (sv J), some (sv w), some (.bl (unlk J n xs ys))] H6 (.bl true) := by
        refine ev_is (ev_intEq (ev_lenT (ev_var rfl) (by omega)) (ev_add (b := (if (!unlk J n xs ys) = true then 1 else 0)) (c := (w.length : Int)) (ev_var rfl) (ev_cb (vs := [.bl (!unlk J n xs ys)]) (ea_cons (ev_notV (ev_var rfl)) ea_nil) fun H1 _ Q q => .inr ⟨_, rfl, q H1 (Ex.refl H1)⟩) ?_)) ?_
        · rw [w2]
          cases unlk J n xs ys <;> simp
        · rw [decide_eq_true rfl]
      exact s_ret (v := .bl true) (ev_orV (a := false) (b := true) (tN H6) fun _ => ev_andV (a := true) (b := true) t1 fun _ => t2) fun H7 e7 => q H7 (E6.ex e7) (((g5.ex e6).ex e7).mono (by omega))
end
end K74
/-! walks: _law_orders_right -/
namespace K74
open PySem PySem.Spec PyProof.Rows L2 Evl
theorem glue_fold : ∀ (ws : List (List Nat)) (acc : List Nat), (ws.map mkS).foldl (fun (a : Array Nat) (p : Str) => a ++ (mkS []).cps ++ p.cps) acc.toArray = (acc ++ ws.flatten).toArray
  | [], acc => by simp
  | w :: ws, acc => by
    rw [List.map_cons, List.foldl_cons]
    have e : acc.toArray ++ (mkS []).cps ++ (mkS w).cps = (acc ++ w).toArray := by simp [mkS]
    rw [e, glue_fold ws (acc ++ w), List.flatten_cons, List.append_assoc]
theorem join_empty (ws : List (List Nat)) : Txt.join (mkS []) (ws.map mkS) = mkS ws.flatten := by
  cases ws with
  | nil => rfl
  | cons w ws =>
    have h := glue_fold ws w
    show (⟨(ws.map mkS).foldl (fun (a : Array Nat) (p : Str) => a ++ (mkS []).cps ++ p.cps) (mkS w).cps⟩ : Str) = ⟨_⟩
    rw [List.flatten_cons]
    exact congrArg Str.mk h
def rJoin (K : PySem.W.Frag) : V → List V → Hp → VK → Prop := fun x xs H Q => ∃ a p, ∃ ys : List Str, x = .str a ∧ xs = [.ref p] ∧ (SqL K H p (ys.map V.str) ∨ SqT K H p (ys.map V.str)) ∧ (ys.map (·.length)).sum + ys.length * a.length ≤ 16777216 ∧ Q (.str (Txt.join a ys)) H
section
variable {K : PySem.W.Frag} {σ : L2.St} {H H' : Hp} {ta tb tc te tx : TE} {x y z v x1 : V} {D : Ends} {g : TG} {tu tz : TS}
theorem ev_join {ws : List (List Nat)} (h1 : Ev ta σ H (sv [])) (h : EvL te σ H (svs ws)) (hz : ((ws.map mkS).map (·.length)).sum ≤ 100000) : Ev (tM1 (rJoin K) ta te) σ H (sv ws.flatten) := fun H1 e Q q =>
  h1 H1 e _ fun H2 e2 => ⟨⟨_, rfl⟩, h H2 (e.trans e2) _ fun p H3 _ e3 hp => ⟨mkS [], p, ws.map mkS, rfl, rfl, .inl (sq_of (by
    rw [hp, List.map_map]
    rfl)), by
    rw [mkS_len]
    show _ + _ * 0 ≤ _
    omega, by
    rw [join_empty]
    exact q H3 (e2.trans e3)⟩⟩
theorem ev_callvL {sp : Sp} {E : XK} {xs : List V} (h1 : Ev ta σ H x1) (h2 : EvL tb σ H xs) (hs : ∀ p H1, Ex H H1 → H1 p = some (.lst xs) → SpV sp [x1, .ref p] H1 z) : Ev (tCall sp [] E (tCons ta (tCons tb tNil))) σ H z := fun H1 e Q k =>
  h1 H1 e _ fun H2 e2 => h2 H2 (e.trans e2) _ fun p H3 _ e3 hx => hs p H3 ((e.trans e2).trans e3) hx H3 (Ex.refl H3) Q (fun H4 e4 => k H4 ((e2.trans e3).trans e4)) E
theorem ep_call1 {g : Addr} {c b n : Nat} {E : XK} (h1 : Ev ta σ H (.ref g)) (h2 : Ev tb σ H (.int (n : Int))) (hn : n ≤ 100) (h3 : EvR g c b tc σ H) (hb : b ≤ 9) (hc : c ≤ 90000) : EvP g (c + 11) n (tCall sp_program [] E (tCons ta (tCons tb (tCons (tOp (rI0 fun i j => .int (i + j)) (tC (.int 1)) tc) tNil)))) σ H := fun Q q =>
  h1 H (Ex.refl H) _ fun H2 e2 => h2 H2 e2 _ fun H3 e3 => h3 H3 (e2.trans e3) _ fun r H4 hr e4 g4 => ⟨1, (r : Int), rfl, rfl, g, n, r + 1, c + 1, by
    show [V.ref g, V.int (n : Int), V.int (1 + (r : Int))] = [V.ref g, V.int (n : Int), V.int ((r + 1 : Nat) : Int)]
    rw [Int.add_comm]
    rfl, hn, by omega, g4, by omega, fun p xs H5 np e5 g5 hp hl hx =>
    q p xs H5 (fresh_backG g4 ((ExG.of (e2.trans e3)).trans e4) np) (((ExG.of (e2.trans e3)).trans e4).trans e5) (g5.mono (by omega)) hp (by omega) hx⟩
end
def sp_orders_right : Sp := fun vs H Q _ => ∃ (g : Addr) (n c : Nat), vs = [.ref g, .int (n : Int)] ∧ 1 ≤ n ∧ n ≤ 60 ∧ Gen g c H ∧ c ≤ 40000 ∧ ∀ H2, ExG g H H2 → Gen g (c + 200) H2 → Q (.bl true) H2
section
variable {P : Program} {w : World} {K : PySem.W.Frag} {mg : Str → Option Value} {base : Heap}
theorem ok_orders_right (D : Dfn K mg "_law_orders_right" s_orders_right p_orders_right) (B : Bt mg) (c_common : Cal P w K mg base "_law_common" p_common 1 sp_common) (c_program : Cal P w K mg base "_law_program" p_program 3 sp_program) (c_random : Cal P w K mg base "_law_random" p_random 2 sp_random) (c_turn : Cal P w K mg base "_law_turn" p_turn 1 sp_turn)
    (c_done_by_numbers_often : Cal P w K mg base "done_by_numbers_often" p_done_by_numbers_often 5 sp_done_often) (c_numbers_order : Cal P w K mg base "numbers_order" p_numbers_order 5 sp_numbers_order) (ck_numbers_order : CalK P w K mg base "numbers_order" p_numbers_order ["numbers", "count"] (fun l => l.reverse) 5 sp_numbers_order)
    (c_order_of : Cal P w K mg base "order_of" p_order_of 5 sp_order_of) : Cal P w K mg base "_law_orders_right" p_orders_right 6 sp_orders_right := by
  refine D.cal sc_orders_right (fun vs H Q E h => ?_) (fun f cdv A outer s H vs Q E hr h => ?_)
  · obtain ⟨g, n, c, rfl, _⟩ := h
    rfl
  · obtain ⟨g, n, c, rfl, n1, n2, hg, hc, q⟩ := h
    have nd := sc_orders_right.nd
    refine ⟨_, (pss_cons (ps_set (i := 2) nd rfl (Or.inl rfl) (pe_cal c_program (hr.mono (by decide)) (by rfl) (pa_cons (pv 0) (pa_cons (pv 1) (pa_cons (pe_op op_add pe_int (pe_cal c_random (hr.mono (by decide)) (by rfl) (pa_cons (pv 0) (pa_cons pe_int pa_nil)))) pa_nil)))))
      (pss_cons (ps_par (by rfl) nd (i := 3) (j := 4) rfl rfl (by decide) rfl rfl (pa_cons (pe_cal c_numbers_order (hr.mono (by decide)) (by rfl) (pa_cons (pv 1) (pa_cons (pv 2) pa_nil))) (pa_cons (pe_op op_fdiv (pe_op op_add (pv 1) pe_int) (pe_cal c_common (hr.mono (by decide)) (by rfl) (pa_cons (pe_op op_add (pv 1) pe_int) (pa_cons (pe_cal c_turn (hr.mono (by decide)) (by rfl) (pa_cons (pv 2) (pa_cons (pv 1) pa_nil))) pa_nil)))) pa_nil)) (by rfl))
      (pss_cons (ps_set (i := 5) nd rfl (Or.inl rfl) (pe_cal c_order_of (hr.mono (by decide)) (by rfl) (pa_cons (pv 1) (pa_cons (pv 2) pa_nil))))
      (pss_cons (ps_if (PW.pt (pw_or (pt_cmpR op_ne (pv 3) (pe_op op_fdiv (pe_op op_mul (pv 5) (pv 4)) (pe_cal c_common (hr.mono (by decide)) (by rfl) (pa_cons (pv 5) (pa_cons (pv 4) pa_nil)))) (nomark _)) (pw_or1 (pt_cmpR op_ne (pe_calK ck_numbers_order (hr.mono (by decide)) (by rfl) (pk_cons (pv 2) (pk_cons (pv 1) pk_nil))) (pv 3) (nomark _)))))
        (pss_one (ps_ret pe_bl))
        pss_nil)
      (pss_cons (ps_set (i := 6) nd rfl (Or.inl rfl) (pe_join pe_str (pe_lc (own := [("_law_at", 9)]) (g := gName 9) (tt := tYes) rfl nd (pi_range1 (by rfl) B.n_range (pa_cons (pv 1) pa_nil)) (blkOk_by (own := [("_law_at", 9)]) (N := N_orders_right) (sc := defScope s_orders_right) (by decide +kernel)) (fun _ _ _ _ _ => (pg_name (i := 9) nd rfl (Or.inl rfl))) (fun _ _ _ _ _ => pts_nil) (fun _ _ _ _ _ => (pe_op op_addT (pe_ix (r := rIxT) ix_T pe_str (pe_op op_mod (pe_callTy call_int1 (by rfl) B.n_int (by decide +kernel) (pa_cons (pv 9) pa_nil)) pe_int) (fun _ _ => rfl)) (pe_ix (r := rIxT) ix_T pe_str (pe_op op_mod (pe_callTy call_int1 (by rfl) B.n_int (by decide +kernel) (pa_cons (pv 9) pa_nil)) pe_int) (fun _ _ => rfl)))))))
      (pss_cons (ps_if (pt_cmpR op_ne (pe_cal c_done_by_numbers_often (hr.mono (by decide)) (by rfl) (pa_cons (pv 6) (pa_cons pe_str (pa_cons (pv 2) (pa_cons (pv 3) pa_nil))))) (pv 6) (nomark _))
        (pss_one (ps_ret pe_bl))
        pss_nil)
      (pss_cons (ps_for PassesOwn.never rfl (pi_range1 (by rfl) B.n_range (pa_cons (pv 1) pa_nil)) (pg_name (i := 7) nd rfl (Or.inl rfl))
        (pss_cons (ps_set (i := 8) nd rfl (Or.inl rfl) (pe_op op_fdiv (pe_op op_add (pv 1) pe_int) (pe_cal c_common (hr.mono (by decide)) (by rfl) (pa_cons (pe_op op_add (pv 1) pe_int) (pa_cons (pe_op op_add (pv 7) pe_int) pa_nil)))))
        (pss_one (ps_if (pt_cmpR op_ne (pe_cal c_numbers_order (hr.mono (by decide)) (by rfl) (pa_cons (pv 1) (pa_cons (pe_lst (pa_cons (pv 7) pa_nil)) pa_nil))) (pe_op op_mul (pv 8) (pe_op op_sub (pv 8) pe_int)) (nomark _))
          (pss_one (ps_ret pe_bl))
          pss_nil))))
      (pss_one (ps_ret pe_bl)))))))))
      , ?_⟩
    refine q_prog (ep_call1 (b := 6) (n := n) (ev_var rfl) (ev_var rfl) (by omega) (er_call (b := 6) (ev_var rfl) ev_c (by omega) (by omega) hg (by omega)) (by omega) (by omega)) fun p xs H1 np e1 g1 hp lx hx => ?_
    have hgp : 0 < Nat.gcd (n + 1) (turn xs % (n + 1)) := Nat.gcd_pos_of_pos_left _ (Nat.succ_pos n)
    have hgl : Nat.gcd (n + 1) (turn xs % (n + 1)) ≤ n + 1 := Nat.gcd_le_left _ (Nat.succ_pos n)
    have hml : turn xs % (n + 1) < n + 1 := Nat.mod_lt _ (Nat.succ_pos n)
    have hT : (((n : Int) + 1) / (Nat.gcd (n + 1) (turn xs % (n + 1)) : Int)) = ((turnsOf n xs : Nat) : Int) := by
      unfold turnsOf
      rw [Int.natCast_ediv, Int.natCast_add]
      rfl
    refine q_par2 (x := .int (norder n xs : Int)) (y := .int (turnsOf n xs : Int)) (ev_call (vs := [.int (n : Int), .ref p]) (ea_cons (ev_var rfl) (ea_cons (ev_var rfl) ea_nil)) (SpV.of fun H2 e2 Q E q => ⟨n, p, xs, rfl, e2 _ _ hp, n2, by omega, hx, q⟩))
      (ev_div (ev_add (ev_var rfl) ev_c rfl) (ev_call (vs := [.int ((n + 1 : Nat) : Int), .int ((turn xs % (n + 1) : Nat) : Int)]) (ea_cons (ev_add (ev_var rfl) ev_c rfl) (ea_cons (ev_call (vs := [.ref p, .int (n : Int)]) (ea_cons (ev_var rfl) (ea_cons (ev_var rfl) ea_nil)) (SpV.of fun H2 e2 Q E q => ⟨p, xs, n, rfl, e2 _ _ hp, by omega, q⟩)) ea_nil)) (SpV.of fun H2 e2 Q E q => ⟨n + 1, _, rfl, by omega, q⟩)) ⟨by omega, by omega⟩ hT) fun H2 e2 => ?_
    have hp2 := e2 _ _ hp
    refine q_asg (v := .int (common (lens n xs) : Int)) (ev_call (vs := [.int (n : Int), .ref p]) (ea_cons (ev_var rfl) (ea_cons (ev_var rfl) ea_nil)) (SpV.of fun H3 e3 Q E q => ⟨n, p, xs, rfl, e3 _ _ hp2, n2, by omega, hx, q⟩)) fun H3 e3 => ?_
    have hp3 := e3 _ _ hp2
    have hL2 : turnsOf n xs ≤ n + 1 := Nat.div_le_self _ _
    have hL1 : 0 < turnsOf n xs := Nat.div_pos hgl hgp
    have hg2 : 0 < Nat.gcd (common (lens n xs)) (turnsOf n xs) := Nat.gcd_pos_of_pos_right _ hL1
    have hg3 : Nat.gcd (common (lens n xs)) (turnsOf n xs) ≤ turnsOf n xs := Nat.gcd_le_right _ hL1
    have tA : Ev (tOp rNe (tVar 3) (tOp (rI CDiv fun i j => V.int (i / j)) (tOp (rI CMul fun i j => V.int (i * j)) (tVar 5) (tVar 4)) (tCall sp_common [] E0 (tCons (tVar 5) (tCons (tVar 4) tNil))))) [some (.ref g), some (.int (n : Int)), some (.ref p), some (.int (norder n xs : Int)), some (.int (turnsOf n xs : Int)), some (.int (common (lens n xs) : Int)), none, none, none, none] H3 (.bl false) := by
      refine ev_is (ev_intNe (b := (norder n xs : Int)) (ev_var rfl) (ev_div (ev_prod (ev_var rfl) (ev_var rfl) (.inr ⟨by omega, by omega⟩) (Int.natCast_mul _ _).symm) (ev_call (vs := [.int (common (lens n xs) : Int), .int (turnsOf n xs : Int)]) (ea_cons (ev_var rfl) (ea_cons (ev_var rfl) ea_nil)) (SpV.of fun H4 _ Q E q => ⟨_, _, rfl, by omega, q⟩)) ⟨by omega, by omega⟩ ?_)) ?_
      · rw [order_is, Int.natCast_ediv]
      · rw [decide_eq_true rfl]
        rfl
    have tB : Ev (tOp rNe (fun σ H Q => tCons (tVar 2) (tCons (tVar 1) tNil) σ H fun zs H1 => sp_numbers_order (List.reverse zs) H1 Q E0) (tVar 3)) [some (.ref g), some (.int (n : Int)), some (.ref p), some (.int (norder n xs : Int)), some (.int (turnsOf n xs : Int)), some (.int (common (lens n xs) : Int)), none, none, none, none] H3 (.bl false) := by
      refine ev_is (ev_intNe (a := (norder n xs : Int)) (ev_callK (g := fun l => l.reverse) (zs := [.ref p, .int (n : Int)]) (ea_cons (ev_var rfl) (ea_cons (ev_var rfl) ea_nil)) (SpV.of fun H4 e4 Q E q => ⟨n, p, xs, rfl, e4 _ _ hp3, n2, by omega, hx, q⟩)) (ev_var rfl)) ?_
      rw [decide_eq_true rfl]
      rfl
    refine q_when (b := false) (et_is (et_or (a := false) (b := false) (et_test tA) fun _ => et_test tB) rfl) (fun z => by cases z) fun _ H4 e4 => ?_
    have hp4 := e4 _ _ hp3
    have E4 : ExG g H H4 := ((e1.ex e2).ex e3).ex e4
    have g4 := ((g1.ex e2).ex e3).ex e4
    obtain ⟨w1, w2, w3⟩ := wordO_facts n
    have hJ1 : Low xyz := low_of (by decide)
    have hJ2 : Rise xyz := rise_of (by decide)
    refine q_asg (v := sv (wordO n)) (ev_is (ev_join (ws := (List.range n).map fun i => [97 + i % 12, 120 + i % 3]) ev_c (el_is (el_lcW (n := n) (fun _ => true) (fun i => sv [97 + i % 12, 120 + i % 3]) (ei_rng1 (ev_var rfl) (by omega)) walk_range (fun _ _ _ h => h) (by omega) fun i x H5 H6 hi e5 hy => ?_) ?_) ?_) ?_) fun H5 e5 => ?_
    · obtain ⟨rfl, rfl⟩ := hy
      have h12 : ∀ k, k < 12 → (([97, 98, 99, 100, 101, 102, 103, 104, 105, 106, 107, 108] : List Nat))[k]? = some (97 + k) := by decide
      have h3 : ∀ k, k < 3 → (([120, 121, 122] : List Nat))[k]? = some (120 + k) := by decide
      refine ⟨Ex.refl _, [some (.ref g), some (.int (n : Int)), some (.ref p), some (.int (norder n xs : Int)), some (.int (turnsOf n xs : Int)), some (.int (common (lens n xs) : Int)), none, none, none, some (.int (0 + (i : Int)))], rfl, fun Q q => q H6 (Ex.refl H6), et_yes, fun _ => ?_⟩
      have ti : ∀ k : Int, 0 < k → Ev (tOp (rI (fun x j => 0 < j) fun i j => V.int (i % j)) (tCB (fun xs H Q => (∃ i, xs = [V.int i] ∧ Q (V.int i) H) ∨ ∃ k, xs = [V.bl k] ∧ Q (V.int (if k = true then 1 else 0)) H) (tCons (tVar 9) tNil)) (tC (.int k))) [some (.ref g), some (.int (n : Int)), some (.ref p), some (.int (norder n xs : Int)), some (.int (turnsOf n xs : Int)), some (.int (common (lens n xs) : Int)), none, none, none, some (.int (0 + (i : Int)))] H6 (.int ((i : Int) % k)) := fun k hk => ev_mod (ev_cb (vs := [.int (0 + (i : Int))]) (ea_cons (ev_var rfl) ea_nil) fun H1 _ Q q => .inl ⟨_, rfl, q H1 (Ex.refl H1)⟩) ev_c hk (by rw [Int.zero_add])
      exact ev_addT (a := [97 + i % 12]) (b := [120 + i % 3]) (ev_ixT (i := i % 12) (ev_is ev_c (show _ = sv [97, 98, 99, 100, 101, 102, 103, 104, 105, 106, 107, 108] by decide +kernel)) (ev_int (ti 12 (by omega)) (by omega)) (h12 _ (Nat.mod_lt _ (by decide))) (by decide)) (ev_ixT (i := i % 3) (ev_is ev_c (show _ = sv [120, 121, 122] by decide +kernel)) (ev_int (ti 3 (by omega)) (by omega)) (h3 _ (Nat.mod_lt _ (by decide))) (by decide)) (by simp)
    · rw [given_all, svs, List.map_map]
      rfl
    · rw [List.map_map, List.map_map]
      have e : (((fun x : Str => x.length) ∘ mkS) ∘ fun i => [97 + i % 12, 120 + i % 3]) = fun _ => 2 := by
        funext i
        show (mkS [97 + i % 12, 120 + i % 3]).length = 2
        rw [mkS_len]
        rfl
      rw [e, List.map_const', List.sum_replicate_nat, List.length_range]
      omega
    · rw [← List.flatMap_def]
      rfl
    have hp5 := e5 _ _ hp4
    have E5 := E4.ex e5
    have g5 := g4.ex e5
    refine q_when (b := false) (et_test (ev_is (ev_strNe (a := wordO n) (b := wordO n) (ev_call (vs := [sv (wordO n), sv xyz, .ref p, .int (norder n xs : Int)]) (ea_cons (ev_var rfl) (ea_cons (ev_is ev_c (by decide +kernel)) (ea_cons (ev_var rfl) (ea_cons (ev_var rfl) ea_nil)))) (SpV.of fun H6 e6 Q E q => ⟨wordO n, xyz, p, xs, norder n xs, rfl, e6 _ _ hp5, w1, by omega, hJ1, hJ2, by decide, by omega, by omega, by rw [w3]; exact hx, by rw [w3, home w3 hx]; exact q⟩)) (ev_var rfl)) (by simp))) (fun z => by cases z) fun _ H6 e6 => ?_
    have E6 := E5.ex e6
    have g6 := g5.ex e6
    refine q_forW (n := n) (ei_rng1 (ev_var rfl) (by omega)) walk_range (fun i σ' H' => ∃ y7 y8, σ' = [some (.ref g), some (.int (n : Int)), some (.ref p), some (.int (norder n xs : Int)), some (.int (turnsOf n xs : Int)), some (.int (common (lens n xs) : Int)), some (sv (wordO n)), y7, y8, none] ∧ Ex H6 H') (fun H7 e7 _ => ⟨_, _, rfl, e7⟩) (fun _ _ _ _ _ => trivial) (fun i x σ' H7 H8 hi hW hy => ?_) (fun σ' H' hW => ?_)
    · obtain ⟨y7, y8, rfl, e7⟩ := hW
      obtain ⟨rfl, rfl⟩ := hy
      have hi1 : 0 < Nat.gcd (n + 1) (i + 1) := Nat.gcd_pos_of_pos_left _ (Nat.succ_pos n)
      have hi2 : Nat.gcd (n + 1) (i + 1) ≤ n + 1 := Nat.gcd_le_left _ (Nat.succ_pos n)
      have hone := one_order n2 hi
      have hLl : (n + 1) / Nat.gcd (n + 1) (i + 1) ≤ n + 1 := Nat.div_le_self _ _
      have hLp : 0 < (n + 1) / Nat.gcd (n + 1) (i + 1) := Nat.div_pos hi2 hi1
      have hD : (((n : Int) + 1) / (Nat.gcd (n + 1) (i + 1) : Int)) = (((n + 1) / Nat.gcd (n + 1) (i + 1) : Nat) : Int) := by
        rw [Int.natCast_ediv, Int.natCast_add]
        rfl
      generalize (n + 1) / Nat.gcd (n + 1) (i + 1) = L at hone hLl hLp hD
      refine q_asg (v := .int (L : Int)) (ev_div (ev_add (ev_var rfl) ev_c rfl) (ev_call (vs := [.int ((n + 1 : Nat) : Int), .int ((i + 1 : Nat) : Int)]) (ea_cons (ev_add (ev_var rfl) ev_c rfl) (ea_cons (ev_add (ev_var rfl) ev_c (by omega)) ea_nil)) (SpV.of fun H2 e2 Q E q => ⟨n + 1, i + 1, rfl, by omega, q⟩)) ⟨by omega, by omega⟩ hD) fun H9 e9 => ?_
      have hLL : (L : Int) * ((L : Int) - 1) = ((L * (L - 1) : Nat) : Int) := by
        rw [Int.natCast_mul, Int.natCast_sub hLp]
        rfl
      refine s_when (b := false) (et_test (ev_is (ev_intNe (a := (norder n [i] : Int)) (b := ((L * (L - 1) : Nat) : Int)) (ev_callvL (ev_var rfl) (el_one (v := ni i) (ev_int (ev_var rfl) (by omega))) fun r H10 e10 hr10 => SpV.of fun H11 e11 Q E q => ⟨n, r, [i], rfl, e11 _ _ hr10, n2, by simp, fun x hx => by rw [List.mem_singleton.mp hx]; exact hi, q⟩) (ev_prod (ev_var rfl) (ev_dif (ev_var rfl) ev_c rfl) (.inl ⟨by omega, by omega⟩) hLL)) (by rw [hone]; simp))) (fun z => by cases z) fun _ H10 e10 => ⟨_, _, rfl, (e7.trans e9).trans e10⟩
    · obtain ⟨y7, y8, rfl, e7⟩ := hW
      exact s_ret ev_c fun H8 e8 => q H8 ((E6.ex e7).ex e8) (((g6.ex e7).ex e8).mono (by omega))
end
end K74
/-! the law itself: it is called where no repr is under way -/
namespace K74
open PySem PySem.Spec PyProof.Rows L2 Evl
section
variable (P : Program) (w : World) (K : PySem.W.Frag) (mg : Str → Option Value) (base : Heap)
/-- a def that keeps its promise where no repr is under way -/
structure FnG (k : Nat) (f : Addr) (fd : FuncData) (ps : List Str) (sp : Sp) : Prop where
  len : ∀ vs H Q E, sp vs H Q E → vs.length = ps.length
  run : ∀ (A : Around) (outer : List Env) (s : Shared) (H : Hp) (args : Args) (us : List Value) (vs : List V) (Q : VK) (E : XK), A.guards = some [] → Room k A → Env0 P w K mg base A outer s H → BindsTo s fd args (ps.zip us) → Vals vs us → sp vs H Q E →
    codeAny (model P w) A (.call (.ref f) args) (CR CX0 outer P w H s Q E) s
end
section
variable {P : Program} {w : World} {K : PySem.W.Frag} {mg : Str → Option Value} {base : Heap}
theorem fun_okG {x qual : Str} {st : Stmt} {f : Addr} {fd : FuncData} {N ps : List Str} {k : Nat} {sp : Sp} (F : Fun K x qual st f fd) (S : FnScope N ps (defScope st)) (len : ∀ vs H Q E, sp vs H Q E → vs.length = ps.length)
    (body : ∀ (cdv : Value) (A : Around) (outer : List Env) (s : Shared) (H : Hp) (vs : List V) (Q : VK) (E : XK), A.guards = some [] → Room k (A.deeper (envOfC qual (defScope st) s.heap.objs.size f cdv)) → sp vs H Q E →
      ∃ t, PSs (cxOf CX0 P w K mg base N qual (defScope st) f cdv A outer s H E).nox (defBody st) t ∧ t { nx := fun _ H' => Q .non H', rt := Q } (start N vs) H) : FnG P w K mg base (k + 1) f fd ps sp := by
  obtain ⟨oc, od, kV, doc, pm, an, cdv, ct, osl, rfl, lk, hcd⟩ := F.ex
  constructor
  · exact len
  · intro A outer st0 H args us vs Q E hgd room e0 binds rel hsp
    have KX : K.In st0.heap := e0.mod.kin.keeps fun b o e => (e0.bs b o e).1
    have lim : st0.heap.NoLimit := e0.mod.nolimit.keeps fun b o e => (e0.bs b o e).1
    have kinds : ∀ y ∈ ps.zip us, (defScope st).names.lookup y.1 = some .local ∨ ((defScope st).names.lookup y.1 = some .cell ∧ ((cellsFrom (st0.heap.objs.size + 1) (defScope st).names []).lookup y.1).isSome = true) := by
      rintro ⟨n, v⟩ hy
      rcases S.par n (List.of_mem_zip hy).1 with c | c
      · exact Or.inl c
      · exact Or.inr ⟨c, PySem.W.cellsFrom_some _ _ _ (Or.inl c)⟩
    refine codeAny_call_function room.depth (KX _ _ lk) rfl S.co S.gen rfl (PySem.W.codeRec_of KX hcd) (binds _ _ _ _ ?_)
    refine wpAny_newFunctionEnv_cells S.kind kinds fun env henv s1 made => ?_
    subst henv
    refine ⟨lim.keeps made.toInCall.keep, codeAny_func ?_⟩
    obtain ⟨t, ht, hq⟩ := body cdv A outer st0 H vs Q E hgd (room.deeper _) hsp
    have I := inv_start (CX := CX0) (E := E) S room.hd e0 (len _ _ _ _ hsp) rel made
    refine wpAny_mono (ht.nox.run [] s1 (start N vs) H _ I hq) (fun fl s2 out => ?_) fun _ _ out => out
    cases fl with
    | brk => exact out.choose_spec.choose_spec.2.elim
    | cont => exact out.choose_spec.choose_spec.2.elim
    | next =>
      obtain ⟨σ2, H2, J, q⟩ := out
      exact ⟨.non, H2, J.os, J.bare, J.base, J.hok, rfl, q⟩
    | ret u =>
      obtain ⟨v, σ2, H2, J, rv, q⟩ := out
      exact ⟨v, H2, J.os, J.bare, J.base, J.hok, rv, q⟩
/-- the law's call from a run's own ground -/
theorem callG {mb : Str → Option Value} {k : Nat} {fa a : Addr} {fd : FuncData} {x : Str} {sp : Sp} {s₁ : Shared} {vs : List Value} {ns : List Int} (KX : K.In s₁.heap) (hns : s₁.heap.Ns mainGlobals mg) (hb : s₁.heap.Ns builtinsNs mb) (hbb : ∀ x : Str, x ≠ "__name__" → mb x = bootBuiltins x) (hlim : s₁.heap.NoLimit)
    (hg : s₁.gens = #[]) (ha : s₁.heap.get? a = some { cls := .type "list", data := .seq vs.toArray }) (hi : IntsAre vs ns) (hl : ns.length ≤ sizeLine) (room : Room k callerA) (F : ∀ base : Heap, K.In base → base.Ns mainGlobals mg → FnG P w K mg base k fa fd [x] sp)
    (hbind : ∀ (s : Shared) (u : Value), BindsTo s fd ⟨[u], []⟩ [(x, u)]) (hsp : ∀ H : Hp, SqL K H a (ns.map V.int) → sp [.ref a] H (fun v _ => v = .bl true) fun _ _ _ => False) :
    codeAny (model P w) callerA (.call (.ref fa) ⟨[.ref a], []⟩) (fun r s' => r = .ok (.ret (.bool true)) ∧ OldK s₁.heap s'.heap ∧ s'.os = s₁.os ∧ AllBare s'.gens) s₁ := by
  have rel := vals_ints hi
  -- from a heap in which the script alone may be tracked, as a thing that is read
  have go : ∀ H : Hp, SqL K H a (ns.map V.int) → HOk P w H s₁.heap → (∀ b, H b = none ∨ (b = a ∧ K.lookup a = none ∧ ∃ ob xs, H b = some (.frz ob (.lst xs)))) →
      codeAny (model P w) callerA (.call (.ref fa) ⟨[.ref a], []⟩) (fun r s' => r = .ok (.ret (.bool true)) ∧ OldK s₁.heap s'.heap ∧ s'.os = s₁.os ∧ AllBare s'.gens) s₁ := by
    intro H hS hok hO
    have free : ∀ {b : Addr} {o : Obj}, s₁.heap.get? b = some o → (∀ es ep, o.data = .dict es ep → False) → True := fun _ _ => trivial
    have noD : ∀ {b : Addr} {o : Obj} {es : Array DictEntry} {ep : Nat}, s₁.heap.get? b = some o → o.data = .dict es ep → H b = none := fun {b o es ep} e d => by
      rcases hO b with z | ⟨rfl, _, _⟩
      · exact z
      · rw [ha] at e
        cases e
        exact nomatch d
    have ns' : ∀ {b : Addr} {m : Str → Option Value}, s₁.heap.Ns b m → (hidT s₁.heap H).Ns b m := fun h => by
      obtain ⟨o, es, ep, e, d, r⟩ := h
      exact ⟨o, es, ep, hidT_get e (noD e d), d, r⟩
    have kin : K.In (hidT s₁.heap H) := fun b o e => by
      refine hidT_get (KX b o e) ?_
      rcases hO b with z | ⟨rfl, z, _⟩
      · exact z
      · rw [z] at e
        cases e
    have md : Mod K mg (hidT s₁.heap H) := ⟨kin, ns' hns, ⟨mb, ns' hb, hbb⟩, by
      obtain ⟨mc, h1, h2⟩ := hlim
      exact ⟨mc, ns' h1, h2⟩⟩
    have e0 : Env0 P w K mg (hidT s₁.heap H) callerA [] s₁ H := ⟨rfl, md, fun b o e => of_hidT e, Nat.le_of_eq (hidT_size _ _), trivial, fun b hb => absurd hb List.not_mem_nil, hok, .of_eq hg⟩
    have run := (F _ kin (ns' hns)).run callerA [] s₁ H ⟨[.ref a], []⟩ [.ref a] [.ref a] _ _ rfl room e0 (hbind s₁ (.ref a)) (.cons rfl .nil) (hsp H hS)
    refine codeAny_mono run fun r s2 out => ?_
    cases r with
    | error e => exact False.elim out
    | ok fl =>
      cases fl with
      | next => exact False.elim out
      | brk => exact False.elim out
      | cont => exact False.elim out
      | ret u =>
        obtain ⟨v, H2, os2, bare, un, hok2, rv, q⟩ := out
        cases (show v = .bl true from q)
        cases (show u = Value.bool true from rv)
        refine ⟨rfl, OldK.of_keep fun b o e => ?_, os2, bare⟩
        rcases hO b with z | ⟨_, _, ob, xs, z⟩
        · exact un.keep b o e z List.not_mem_nil List.not_mem_nil
        · have k1 := (hok b _ z).1
          have k2 := (hok2 b _ (un.frzs b ob _ z)).1
          rw [e] at k1
          rw [k2, k1]
  cases hk : K.lookup a with
  | some o =>
    have e := KX a o hk
    rw [ha] at e
    cases e
    refine go (fun _ => none) (.inr ⟨_, vs.toArray, _, hk, rfl, rfl, rfl, by rw [List.size_toArray, hi.length]; exact hl, by simpa using rel⟩) (fun b u z => by cases z) fun b => .inl rfl
  | none =>
    refine go (fun b => if b = a then some (.frz { cls := .type "list", data := .seq vs.toArray } (.lst (ns.map V.int))) else none) (.inl (.inr ⟨_, if_pos rfl⟩)) (fun b u z => ?_) fun b => ?_
    · by_cases hb : b = a
      · subst hb
        cases (if_pos rfl).symm.trans z
        exact ⟨ha, by rw [List.length_map]; exact hl, vs, _, rel, ha⟩
      · cases (if_neg hb).symm.trans z
    · by_cases hb : b = a
      · exact .inr ⟨hb, hk, _, _, if_pos hb⟩
      · exact .inl (if_neg hb)
end
/-- what k_head leaves, from the law's promise -/
theorem walkG {l : PySem.W.OpenLaw} {n k : Nat} {q : Program} {loose : List Str} {XP : (Str → Option Value) → Heap → Prop} {YP : World → Heap → Prop} {d : DefRec} {K : Params → PySem.W.Frag} {sp : World → Sp} {x : Str} (hn : l.most = some n) (hn2 : n ≤ sizeLine) (hdf : d.params.defaults = []) (room : Room k callerA)
    (hY : ∀ (w : World) (h : Heap), YP w h → (K w.params).In h)
    (F : ∀ (w : World) (mg : Str → Option Value) (fa : Addr) (h : Heap), (K w.params).In h → h.Ns mainGlobals mg → mg d.name = some (.ref fa) → ∃ fd : FuncData, (∀ (s : Shared) (u : Value), BindsTo s fd ⟨[u], []⟩ [(x, u)]) ∧ ∀ base : Heap, (K w.params).In base → base.Ns mainGlobals mg → FnG l.prog w (K w.params) mg base k fa fd [x] (sp w))
    (hsp : ∀ (w : World) (H : Hp) (a : Addr) (ns : List Int), ns.length ≤ n → SqL (K w.params) H a (ns.map V.int) → sp w [.ref a] H (fun v _ => v = .bl true) fun _ _ _ => False) :
    PySem.W.WalkO q loose XP YP l.row.toRowW d [] (fun f vs => PySem.call f vs) := by
  refine Att.attach_call hn hdf ?_
  intro w s0 s1 mg mb fa o pm cd doc a vs ns G Y ho hd hcd hmg hobj hints hlen hg
  have KX := hY w _ Y
  obtain ⟨fd, bind, keep⟩ := F w mg fa _ KX G.T.g hmg
  exact callG KX G.T.g G.T.b G.T.builtins G.T.nolimit hg hobj hints (Nat.le_trans hlen hn2) room keep bind fun H hS => hsp w H a ns hlen hS
end K74
/-! the walk of law -/
namespace K74
open PySem PySem.Spec PyProof.Rows L2 Evl
section
variable {K : PySem.W.Frag} {σ : L2.St} {H H' : Hp} {ta tb tc td te tr : TE} {x y z v x1 : V} {D : Ends} {g : TG} {tu tw tz : TS} {t u : TT}
/-- the generator is new since H: what stood at H stands -/
theorem ExG.back {g : Addr} {H H1 H2 : Hp} (n : H g = none) (e : Ex H H1) (e2 : ExG g H1 H2) : Ex H H2 := fun a o h => e2 a o (ne_of_none h n) (e a o h)
def EvTE (g : Addr) (d : Nat) (t : TT) (σ : L2.St) (H : Hp) (b : Bool) : Prop := ∀ Q : Bool → Hp → Prop, (∀ H2, ExG g H H2 → Gen g d H2 → Q b H2) → t σ H Q
theorem te_small {g : Addr} {c : Nat} {E : XK} (h1 : Ev ta σ H (.ref g)) (hg : Gen g c H) (hc : c ≤ 40000) : EvTE g (c + 200) (tNot (tB (tCall sp_small_right [] E (tCons ta tNil)))) σ H false := fun Q q =>
  h1 H (Ex.refl H) _ fun H1 e1 => ⟨g, c, rfl, hg.ex e1, hc, fun H2 e2 g2 => ⟨true, rfl, q H2 ((ExG.of e1).trans e2) g2⟩⟩
theorem te_great {g : Addr} {c b k : Nat} {E : XK} (h1 : Ev ta σ H (.ref g)) (h2 : EvR g c b tr σ H) (k1 : 1 ≤ k) (k2 : k + b ≤ 61) (hc : c ≤ 30000) : EvTE g (c + 201) (tNot (tB (tCall sp_great_right [] E (tCons ta (tCons (tOp (rI0 fun i j => .int (i + j)) (tC (.int (k : Int))) tr) tNil))))) σ H false := fun Q q =>
  h1 H (Ex.refl H) _ fun H1 e1 => h2 H1 e1 _ fun r H2 hr e2 g2 => ⟨(k : Int), (r : Int), rfl, rfl, g, k + r, c + 1, by
    show [V.ref g, V.int ((k : Int) + (r : Int))] = [V.ref g, V.int ((k + r : Nat) : Int)]
    rw [Int.natCast_add], by omega, by omega, g2, by omega, fun H3 e3 g3 => ⟨true, rfl, q H3 (((ExG.of e1).trans e2).trans e3) (g3.mono (by omega))⟩⟩
theorem te_orders {g : Addr} {c b k : Nat} {E : XK} (h1 : Ev ta σ H (.ref g)) (h2 : EvR g c b tr σ H) (k1 : 1 ≤ k) (k2 : k + b ≤ 61) (hc : c ≤ 30000) : EvTE g (c + 201) (tNot (tB (tCall sp_orders_right [] E (tCons ta (tCons (tOp (rI0 fun i j => .int (i + j)) (tC (.int (k : Int))) tr) tNil))))) σ H false := fun Q q =>
  h1 H (Ex.refl H) _ fun H1 e1 => h2 H1 e1 _ fun r H2 hr e2 g2 => ⟨(k : Int), (r : Int), rfl, rfl, g, k + r, c + 1, by
    show [V.ref g, V.int ((k : Int) + (r : Int))] = [V.ref g, V.int ((k + r : Nat) : Int)]
    rw [Int.natCast_add], by omega, by omega, g2, by omega, fun H3 e3 g3 => ⟨true, rfl, q H3 (((ExG.of e1).trans e2).trans e3) (g3.mono (by omega))⟩⟩
theorem te_or {g : Addr} {d d' : Nat} (h1 : EvTE g d t σ H false) (h2 : ∀ H1, ExG g H H1 → Gen g d H1 → EvTE g d' u σ H1 false) : EvTE g d' (tOr t u) σ H false := fun Q q =>
  h1 _ fun H1 e1 g1 => by
    show (if false = true then Q true H1 else u σ H1 Q)
    rw [if_neg Bool.false_ne_true]
    exact h2 H1 e1 g1 Q fun H2 e2 g2 => q H2 (e1.trans e2) g2
theorem q_te {g : Addr} {d : Nat} (h : EvTE g d t σ H false) (k : ∀ H1, ExG g H H1 → Gen g d H1 → tz D σ H1) : tSeq (tIfS t tu tNext) tz D σ H :=
  h _ fun H1 e1 g1 => by
    show (if false = true then tu { D with nx := tz D } σ H1 else tNext { D with nx := tz D } σ H1)
    rw [if_neg Bool.false_ne_true]
    exact k H1 e1 g1
theorem s_te {g : Addr} {d : Nat} (h : EvTE g d t σ H false) (k : ∀ H1, ExG g H H1 → Gen g d H1 → D.nx σ H1) : tIfS t tu tNext D σ H :=
  h _ fun H1 e1 g1 => by
    show (if false = true then tu D σ H1 else tNext D σ H1)
    rw [if_neg Bool.false_ne_true]
    exact k H1 e1 g1
/-- numbers_parting of written arguments -/
theorem ev_np {E : XK} {J xs ys : List Nat} {n : Nat} (h1 : Ev ta σ H (sv J)) (h2 : Ev tb σ H (.int (n : Int))) (h3 : EvL tc σ H (iv xs)) (h4 : EvL td σ H (iv ys)) (lj : (J.all fun c => decide (97 ≤ c) && decide (c < 123)) = true) (rj : J.Pairwise (· < ·)) (hj : J.length ≤ 100) (hn : n ≤ 60)
    (hx : xs.length ≤ 10000) (hy : ys.length ≤ 10000) (lx : ∀ p ∈ xs, p < n) (ly : ∀ p ∈ ys, p < n) (hv : os (npart J n xs ys) = v) : Ev (tCall sp_numbers_parting [] E (tCons ta (tCons tb (tCons tc (tCons td tNil))))) σ H v := fun H1 e Q q =>
  h1 H1 e _ fun H2 e2 => h2 H2 (e.trans e2) _ fun H3 e3 => h3 H3 ((e.trans e2).trans e3) _ fun p H4 _ e4 hp => h4 H4 (((e.trans e2).trans e3).trans e4) _ fun r H5 _ e5 hr =>
    ⟨J, n, p, r, xs, ys, rfl, e5 _ _ hp, hr, low_of lj, rise_of rj, hj, hn, hx, hy, lx, ly, fun H6 e6 => by
      rw [hv]
      exact q H6 ((((e2.trans e3).trans e4).trans e5).trans e6)⟩
/-- repr of a list of plain data -/
theorem ev_reprL {a : Addr} {xs : List V} {ds : List PyData} (h : Ev te σ H (.ref a)) (ha : H a = some (.lst xs)) (hd : ∀ H, DpAll K H xs ds) (h1 : (PyData.list ds).showable = true) (h2 : (PyData.list ds).hasDict = false) (h3 : (PyData.list ds).shown.length ≤ 1000) (h4 : (PyData.list ds).depth ≤ 60) :
    Ev (tCB (rReprL K) (tCons te tNil)) σ H (.str (PyData.list ds).shown) := fun H1 e Q q => h H1 e _ fun H2 e2 => ⟨a, ds, rfl, .lst (sq_of ((e.trans e2) _ _ ha)) (hd H2), h1, h2, sz_of (by omega), h4, q H2 e2⟩
theorem ev_reprN {xs : List V} {ds : List PyData} (h : EvL te σ H xs) (hd : ∀ H, DpAll K H xs ds) (h1 : (PyData.list ds).showable = true) (h2 : (PyData.list ds).hasDict = false) (h3 : (PyData.list ds).shown.length ≤ 1000) (h4 : (PyData.list ds).depth ≤ 60) :
    Ev (tCB (rReprL K) (tCons te tNil)) σ H (.str (PyData.list ds).shown) := fun H1 e Q q => h H1 e _ fun p H2 _ e2 hp => ⟨p, ds, rfl, .lst (sq_of hp) (hd H2), h1, h2, sz_of (by omega), h4, q H2 e2⟩
theorem el_ints1 {a : Nat} (h1 : Ev ta σ H (.int (a : Int))) : EvL (tLst (tCons ta tNil)) σ H (iv [a]) := el_lst (ea_cons h1 ea_nil) (by show 1 ≤ 100000; decide)
theorem el_ints3 {a b c : Nat} (h1 : Ev ta σ H (.int (a : Int))) (h2 : Ev tb σ H (.int (b : Int))) (h3 : Ev tc σ H (.int (c : Int))) : EvL (tLst (tCons ta (tCons tb (tCons tc tNil)))) σ H (iv [a, b, c]) := el_lst (ea_cons h1 (ea_cons h2 (ea_cons h3 ea_nil))) (by show 3 ≤ 100000; decide)
end
def sp_law (K : PySem.W.Frag) : Sp := fun vs H Q _ => ∃ (a : Addr) (ns : List Int), vs = [.ref a] ∧ SqL K H a (ns.map V.int) ∧ ns.length ≤ 63 ∧ ∀ H2, Q (.bl true) H2
def tolds : List V := [sv [97, 120, 120], sv [97, 97, 99], .non, sv [120, 120, 121], .non, .non, sv [97, 97, 98], .int 1]
def toldD : List PyData := [.str (mkS [97, 120, 120]), .str (mkS [97, 97, 99]), .none, .str (mkS [120, 120, 121]), .none, .none, .str (mkS [97, 97, 98]), .int 1]
theorem toldDp {K : PySem.W.Frag} (H : Hp) : DpAll K H tolds toldD := .cons (.str _) (.cons (.str _) (.cons .non (.cons (.str _) (.cons .non (.cons .non (.cons (.str _) (.cons (.int 1) .nil)))))))
theorem told1 : (PyData.list toldD).showable = true := by decide +kernel
theorem told2 : (PyData.list toldD).hasDict = false := by decide +kernel
theorem told3 : (PyData.list toldD).shown.length ≤ 1000 := by decide +kernel
theorem told4 : (PyData.list toldD).depth ≤ 60 := by decide +kernel
section
variable {P : Program} {w : World} {K : PySem.W.Frag} {mg : Str → Option Value} {base : Heap}
theorem ok_law {f : Addr} {fd : FuncData} (F : Fun K "law" "law" s_law f fd) (B : Bt mg) (c_generator : Cal P w K mg base "_law_generator" p_generator 2 (sp_generator K)) (c_random : Cal P w K mg base "_law_random" p_random 2 sp_random) (c_small_right : Cal P w K mg base "_law_small_right" p_small_right 6 sp_small_right)
    (c_great_right : Cal P w K mg base "_law_great_right" p_great_right 6 sp_great_right) (c_orders_right : Cal P w K mg base "_law_orders_right" p_orders_right 6 sp_orders_right) (c_numbers_parting : Cal P w K mg base "numbers_parting" p_numbers_parting 5 sp_numbers_parting) (c_numbers_order : Cal P w K mg base "numbers_order" p_numbers_order 5 sp_numbers_order) : FnG P w K mg base 7 f fd p_law (sp_law K) := by
  refine fun_okG F sc_law (fun vs H Q E h => ?_) (fun cdv A outer s H vs Q E hgd hr h => ?_)
  · obtain ⟨a, ns, rfl, _⟩ := h
    rfl
  · obtain ⟨a, ns, rfl, ha, hl, q⟩ := h
    have nd := sc_law.nd
    refine ⟨_, (pss_cons (ps_for PassesOwn.never rfl (pi_range1 (by rfl) B.n_range (pa_cons pe_int pa_nil)) (pg_name (i := 1) nd rfl (Or.inl rfl))
        (pss_cons (ps_set (i := 2) nd rfl (Or.inl rfl) (pe_cal c_generator (hr.mono (by decide)) (by rfl) (pa_cons (pv 0) (pa_cons (pv 1) pa_nil))))
        (pss_cons (ps_if (pt_not (pt_val (pe_cal c_small_right (hr.mono (by decide)) (by rfl) (pa_cons (pv 2) pa_nil))))
          (pss_one (ps_ret pe_bl))
          pss_nil)
        (pss_one (ps_if (PW.pt (pw_or (pt_not (pt_val (pe_cal c_great_right (hr.mono (by decide)) (by rfl) (pa_cons (pv 2) (pa_cons (pe_op op_add pe_int (pe_cal c_random (hr.mono (by decide)) (by rfl) (pa_cons (pv 2) (pa_cons pe_int pa_nil)))) pa_nil))))) (pw_or1 (pt_not (pt_val (pe_cal c_orders_right (hr.mono (by decide)) (by rfl) (pa_cons (pv 2) (pa_cons (pe_op op_add pe_int (pe_cal c_random (hr.mono (by decide)) (by rfl) (pa_cons (pv 2) (pa_cons pe_int pa_nil)))) pa_nil))))))))
          (pss_one (ps_ret pe_bl))
          pss_nil)))))
      (pss_cons (ps_set (i := 3) nd rfl (Or.inl rfl) pe_str)
      (pss_cons (ps_set (i := 4) nd rfl (Or.inl rfl) (pe_lst (pa_cons (pe_cal c_numbers_parting (hr.mono (by decide)) (by rfl) (pa_cons pe_str (pa_cons pe_int (pa_cons (pe_lst (pa_cons pe_int pa_nil)) (pa_cons (pe_lst (pa_cons pe_int pa_nil)) pa_nil))))) (pa_cons (pe_cal c_numbers_parting (hr.mono (by decide)) (by rfl) (pa_cons pe_str (pa_cons pe_int (pa_cons (pe_lst (pa_cons pe_int pa_nil)) (pa_cons (pe_lst (pa_cons pe_int pa_nil)) pa_nil))))) (pa_cons (pe_cal c_numbers_parting (hr.mono (by decide)) (by rfl) (pa_cons pe_str (pa_cons pe_int (pa_cons (pe_lst (pa_cons pe_int (pa_cons pe_int (pa_cons pe_int pa_nil)))) (pa_cons (pe_lst pa_nil) pa_nil))))) (pa_cons (pe_cal c_numbers_parting (hr.mono (by decide)) (by rfl) (pa_cons pe_str (pa_cons pe_int (pa_cons (pe_lst (pa_cons pe_int pa_nil)) (pa_cons (pe_lst (pa_cons pe_int pa_nil)) pa_nil))))) pa_nil))))))
      (pss_cons (ps_set (i := 4) nd rfl (Or.inl rfl) (pe_op op_cat (pv 4) (pe_lst (pa_cons (pe_cal c_numbers_parting (hr.mono (by decide)) (by rfl) (pa_cons (pv 3) (pa_cons pe_int (pa_cons (pe_lst (pa_cons pe_int pa_nil)) (pa_cons (pe_lst (pa_cons pe_int pa_nil)) pa_nil))))) (pa_cons (pe_cal c_numbers_parting (hr.mono (by decide)) (by rfl) (pa_cons pe_str (pa_cons pe_int (pa_cons (pe_lst (pa_cons pe_int pa_nil)) (pa_cons (pe_lst (pa_cons pe_int pa_nil)) pa_nil))))) (pa_cons (pe_cal c_numbers_parting (hr.mono (by decide)) (by rfl) (pa_cons (pv 3) (pa_cons pe_int (pa_cons (pe_lst (pa_cons pe_int pa_nil)) (pa_cons (pe_lst (pa_cons pe_int pa_nil)) pa_nil))))) (pa_cons (pe_cal c_numbers_order (hr.mono (by decide)) (by rfl) (pa_cons pe_int (pa_cons (pe_lst pa_nil) pa_nil))) pa_nil)))))))
      (pss_cons (ps_set (i := 5) nd rfl (Or.inl rfl) (pe_lst (pa_cons (pe_cal c_numbers_parting (hr.mono (by decide)) (by rfl) (pa_cons pe_str (pa_cons pe_int (pa_cons (pe_lst (pa_cons pe_int (pa_cons pe_int (pa_cons pe_int pa_nil)))) (pa_cons (pe_lst pa_nil) pa_nil))))) (pa_cons (pe_cal c_numbers_parting (hr.mono (by decide)) (by rfl) (pa_cons pe_str (pa_cons pe_int (pa_cons (pe_op op_rep (pe_lst (pa_cons pe_int pa_nil)) pe_int) (pa_cons (pe_lst pa_nil) pa_nil))))) (pa_cons (pe_cal c_numbers_parting (hr.mono (by decide)) (by rfl) (pa_cons pe_str (pa_cons pe_int (pa_cons (pe_op op_rep (pe_lst (pa_cons pe_int pa_nil)) pe_int) (pa_cons (pe_lst pa_nil) pa_nil))))) pa_nil)))))
      (pss_cons (ps_if (pt_cmpR (op_neD (hu64 hr)) (pe_op op_cat (pv 5) (pe_lst (pa_cons (pe_cal c_numbers_parting (hr.mono (by decide)) (by rfl) (pa_cons pe_str (pa_cons pe_int (pa_cons (pe_lst (pa_cons pe_int (pa_cons pe_int (pa_cons pe_int pa_nil)))) (pa_cons (pe_lst pa_nil) pa_nil))))) pa_nil))) (pe_lst (pa_cons pe_str (pa_cons pe_str (pa_cons pe_str (pa_cons pe_str pa_nil))))) (nomark _))
        (pss_one (ps_ret pe_bl))
        pss_nil)
      (pss_one (ps_ret (pe_cmpR op_eq (pe_callB (call_reprL (hu64 hr) hgd) (by rfl) B.n_repr (by decide +kernel) (pa_cons (pv 4) pa_nil)) (pe_callB (call_reprL (hu64 hr) hgd) (by rfl) B.n_repr (by decide +kernel) (pa_cons (pe_lst (pa_cons pe_str (pa_cons pe_str (pa_cons pe_non (pa_cons pe_str (pa_cons pe_non (pa_cons pe_non (pa_cons pe_str (pa_cons pe_int pa_nil))))))))) pa_nil)) (nomark _))))))))))
      , ?_⟩
    refine q_forW (n := 2) (ei_rng1 (n := 2) ev_c (by decide)) walk_range (fun i σ' H' => ∃ y1 y2, σ' = [some (.ref a), y1, y2, none, none, none] ∧ Ex H H') (fun H1 e1 _ => ⟨_, _, rfl, e1⟩) (fun _ _ _ _ _ => trivial) (fun i x σ' H1 H2 hi hW hy => ?_) (fun σ' H1 hW => ?_)
    · obtain ⟨y1, y2, rfl, e1⟩ := hW
      obtain ⟨rfl, rfl⟩ := hy
      refine q_call (vs := [.ref a, .int (i : Int)]) (ea_cons (ev_var rfl) (ea_cons (ev_int (ev_var rfl) (by omega)) ea_nil)) fun H3 e3 => ⟨a, ns, i, rfl, ex_l (e1.trans e3) ha, by omega, by omega, fun g H4 ng e4 g4 => ?_⟩
      have ngH : H g = none := fresh_back (e1.trans e3) ng
      have E4 : Ex H H4 := (e1.trans e3).trans e4
      refine q_te (te_small (ev_var rfl) g4 (by omega)) fun H5 e5 g5 => ?_
      refine s_te (te_or (te_great (k := 5) (b := 56) (ev_var rfl) (er_call (b := 56) (ev_var rfl) ev_c (by omega) (by omega) g5 (by omega)) (by omega) (by omega) (by omega)) fun H6 e6 g6 => te_orders (k := 1) (b := 60) (ev_var rfl) (er_call (b := 60) (ev_var rfl) ev_c (by omega) (by omega) g6 (by omega)) (by omega) (by omega) (by omega)) fun H7 e7 g7 => ⟨_, _, rfl, ExG.back ngH E4 (e5.trans e7)⟩
    · obtain ⟨y1, y2, rfl, e1⟩ := hW
      refine q_asg (v := sv cLETTERS) (ev_is ev_c (by decide +kernel)) fun H2 e2 => ?_
      have E2 : Ex H H2 := e1.trans e2
      have i0 : ∀ σ' H', EvL (tLst (tCons (tC (.int 0)) tNil)) σ' H' (iv [0]) := fun _ _ => el_ints1 ev_c
      have i1 : ∀ σ' H', EvL (tLst (tCons (tC (.int 1)) tNil)) σ' H' (iv [1]) := fun _ _ => el_ints1 ev_c
      have i2 : ∀ σ' H', EvL (tLst tNil) σ' H' (iv []) := fun _ _ => el_nil
      have i3 : ∀ σ' H', EvL (tLst (tCons (tC (.int 0)) (tCons (tC (.int 0)) (tCons (tC (.int 0)) tNil)))) σ' H' (iv [0, 0, 0]) := fun _ _ => el_ints3 ev_c ev_c ev_c
      have i4 : ∀ σ' H', EvL (tLst (tCons (tC (.int 0)) (tCons (tC (.int 0)) (tCons (tC (.int 4)) tNil)))) σ' H' (iv [0, 0, 4]) := fun _ _ => el_ints3 ev_c ev_c ev_c
      have i6 : ∀ σ' H', EvL (tOp rRep (tLst (tCons (tC (.int 0)) tNil)) (tC (.int 6))) σ' H' (iv [0, 0, 0, 0, 0, 0]) := fun _ _ => el_is (el_rep (n := 6) (el_one (v := .int 0) ev_c) ev_c (by simp) (by decide)) rfl
      have x0 : ∀ n : Nat, 0 < n → ∀ p ∈ ([0] : List Nat), p < n := fun n hn p hp => by
        rw [List.mem_singleton.mp hp]
        exact hn
      have x1 : ∀ n : Nat, 1 < n → ∀ p ∈ ([1] : List Nat), p < n := fun n hn p hp => by
        rw [List.mem_singleton.mp hp]
        exact hn
      have xn : ∀ n : Nat, ∀ p ∈ ([] : List Nat), p < n := fun n p hp => absurd hp List.not_mem_nil
      refine q_asgL (xs := [sv [97, 120, 120], sv [97, 97, 99], .non, sv [120, 120, 121]]) (el_lst (ea_cons (ev_np (J := [120, 121]) (n := 2) (ev_is ev_c (by decide +kernel)) ev_c (i0 _ _) (i1 _ _) (by decide) (by decide) (by decide) (by decide) (by decide) (by decide) (x0 2 (by decide)) (x1 2 (by decide)) (by decide +kernel))
        (ea_cons (ev_np (J := [97, 98]) (n := 2) (ev_is ev_c (by decide +kernel)) ev_c (i0 _ _) (i1 _ _) (by decide) (by decide) (by decide) (by decide) (by decide) (by decide) (x0 2 (by decide)) (x1 2 (by decide)) (by decide +kernel))
        (ea_cons (ev_np (J := [120]) (n := 2) (ev_is ev_c (by decide +kernel)) ev_c (i3 _ _) (i2 _ _) (by decide) (by decide) (by decide) (by decide) (by decide) (by decide) (by decide) (xn 2) (by decide +kernel))
        (ea_cons (ev_np (J := [120, 121]) (n := 3) (ev_is ev_c (by decide +kernel)) ev_c (i0 _ _) (i1 _ _) (by decide) (by decide) (by decide) (by decide) (by decide) (by decide) (x0 3 (by decide)) (x1 3 (by decide)) (by decide +kernel)) ea_nil)))) (by decide)) fun t1 H3 nt1 e3 ht1 => ?_
      refine q_asgL (xs := tolds) (el_cat1 (ev_var rfl) ht1 (el_lst (vs := [.non, .non, sv [97, 97, 98], .int 1]) (ea_cons (ev_np (J := cLETTERS) (n := 2) (ev_var rfl) ev_c (i0 _ _) (i1 _ _) (by decide) (by decide) (by decide) (by decide) (by decide) (by decide) (x0 2 (by decide)) (x1 2 (by decide)) (by decide +kernel))
        (ea_cons (ev_np (J := []) (n := 2) (ev_is ev_c (by decide +kernel)) ev_c (i0 _ _) (i1 _ _) (by decide) (by decide) (by decide) (by decide) (by decide) (by decide) (x0 2 (by decide)) (x1 2 (by decide)) (by decide +kernel))
        (ea_cons (ev_np (J := cLETTERS) (n := 3) (ev_var rfl) ev_c (i0 _ _) (i1 _ _) (by decide) (by decide) (by decide) (by decide) (by decide) (by decide) (x0 3 (by decide)) (x1 3 (by decide)) (by decide +kernel))
        (ea_cons (ev_callvL (x1 := .int 0) ev_c (i2 _ _) fun p H4 e4 hp => SpV.of fun H5 e5 Q E q => ⟨0, p, [], rfl, e5 _ _ hp, by decide, by decide, xn 0, by
          have e : norder 0 [] = 1 := by decide +kernel
          rw [e]
          exact q⟩) ea_nil)))) (by decide)) (by decide)) fun t2 H4 nt2 e4 ht2 => ?_
      refine q_asgL (xs := svs [[109, 120, 109, 109, 109, 109], [97, 109, 109, 109, 109, 109, 109], [97, 97, 97, 97, 97, 97, 99]]) (el_lst (ea_cons (ev_np (J := [109, 120]) (n := 6) (ev_is ev_c (by decide +kernel)) ev_c (i4 _ _) (i2 _ _) (by decide) (by decide) (by decide) (by decide) (by decide) (by decide) (by decide) (xn 6) (by decide +kernel))
        (ea_cons (ev_np (J := [109, 120]) (n := 6) (ev_is ev_c (by decide +kernel)) ev_c (i6 _ _) (i2 _ _) (by decide) (by decide) (by decide) (by decide) (by decide) (by decide) (by decide) (xn 6) (by decide +kernel))
        (ea_cons (ev_np (J := [97, 98]) (n := 6) (ev_is ev_c (by decide +kernel)) ev_c (i6 _ _) (i2 _ _) (by decide) (by decide) (by decide) (by decide) (by decide) (by decide) (by decide) (xn 6) (by decide +kernel)) ea_nil))) (by decide)) fun t3 H5 nt3 e5 ht3 => ?_
      refine q_when (b := false) (et_test (ev_is (ev_neS (a := [[109, 120, 109, 109, 109, 109], [97, 109, 109, 109, 109, 109, 109], [97, 97, 97, 97, 97, 97, 99], [98, 99, 98, 98, 98, 98]]) (b := [[109, 120, 109, 109, 109, 109], [97, 109, 109, 109, 109, 109, 109], [97, 97, 97, 97, 97, 97, 99], [98, 99, 98, 98, 98, 98]])
        (el_is (el_cat1 (ev_var rfl) ht3 (el_one (ev_np (J := [98, 99, 100]) (n := 6) (v := sv [98, 99, 98, 98, 98, 98]) (ev_is ev_c (by decide +kernel)) ev_c (i4 _ _) (i2 _ _) (by decide) (by decide) (by decide) (by decide) (by decide) (by decide) (by decide) (xn 6) (by decide +kernel))) (by decide)) rfl)
        (el_lst (vs := svs [[109, 120, 109, 109, 109, 109], [97, 109, 109, 109, 109, 109, 109], [97, 97, 97, 97, 97, 97, 99], [98, 99, 98, 98, 98, 98]]) (ea_cons (ev_is ev_c (by decide +kernel)) (ea_cons (ev_is ev_c (by decide +kernel)) (ea_cons (ev_is ev_c (by decide +kernel)) (ea_cons (ev_is ev_c (by decide +kernel)) ea_nil)))) (by decide)) (by unfold LowS; decide) (by unfold LowS; decide)) (by decide))) (fun z => by cases z) fun _ H6 e6 => ?_
      have ht6 := (e5.trans e6) _ _ ht2
      refine s_ret (v := .bl true) (ev_is (ev_op (x := .str (PyData.list toldD).shown) (y := .str (PyData.list toldD).shown) (ev_reprL (ev_var rfl) ht6 toldDp told1 told2 told3 told4) (ev_reprN (xs := tolds) (el_lst (ea_cons (ev_is ev_c (by decide +kernel)) (ea_cons (ev_is ev_c (by decide +kernel)) (ea_cons ev_c (ea_cons (ev_is ev_c (by decide +kernel)) (ea_cons ev_c (ea_cons ev_c (ea_cons (ev_is ev_c (by decide +kernel)) (ea_cons ev_c ea_nil)))))))) (by decide)) toldDp told1 told2 told3 told4) (rv_eq rfl)) ?_) fun H7 e7 => q H7
      rw [decide_eq_true rfl]
end
end K74
/-! what the top has written: constants, keyword calls, the law's own def -/
namespace K74
open PySem PySem.Spec PyProof.Rows L2
theorem bt_str {K : PySem.W.Frag} {h : Heap} {mg : Str → Option Value} {x z : Str} {t : Tok} {l : List Nat} (X : K.In h) (G : h.Ns mainGlobals mg) (a : PySem.W.nsIn K mainGlobals x = some (some (.str z t))) (e : z = mkS l) : ∃ u, mg x = some u ∧ RelV (sv l) u := by
  subst e
  exact ⟨_, PySem.W.mg_of X G a, t, rfl⟩
theorem bt_int {K : PySem.W.Frag} {h : Heap} {mg : Str → Option Value} {x : Str} {i : Int} {t : Tok} (X : K.In h) (G : h.Ns mainGlobals mg) (a : PySem.W.nsIn K mainGlobals x = some (some (.int i t))) : ∃ u, mg x = some u ∧ RelV (.int i) u := ⟨_, PySem.W.mg_of X G a, t, rfl⟩
theorem revs {vs : List V} {us : List Value} (r : Vals vs us) : Vals vs.reverse us.reverse := r.reverse
section
variable {K : PySem.W.Frag}
theorem kb_numbers_parting (kV doc pm : Value) (an : Option Addr) (cdv ct : Value) : KBinds K (PySem.W.fnOf "numbers_parting" "numbers_parting" (defArgs s_numbers_parting) (defBody s_numbers_parting) (defScope s_numbers_parting) .none kV doc pm an cdv ct) p_numbers_parting ["other", "one", "count", "joints"] (fun us ws => match us with | [] => ws.reverse | _ :: _ => []) (fun us ws => match us with | [] => ws.reverse | _ :: _ => []) := by
  refine ⟨fun s us ws _ hl => ?_, fun r rz => by
    cases r with
    | nil => exact revs rz
    | cons _ _ => exact .nil⟩
  cases us with
  | cons u us =>
    have hl : (0 : Nat) = 4 := hl
    cases hl
  | nil =>
    have hl : ws.length = 4 := by
      have h2 : ws.reverse.length = 4 := hl
      rw [List.length_reverse] at h2
      exact h2
    match ws, hl with
    | [a, b, c, d], _ => exact .of_eq rfl
theorem kb_numbers_order (kV doc pm : Value) (an : Option Addr) (cdv ct : Value) : KBinds K (PySem.W.fnOf "numbers_order" "numbers_order" (defArgs s_numbers_order) (defBody s_numbers_order) (defScope s_numbers_order) .none kV doc pm an cdv ct) p_numbers_order ["numbers", "count"] (fun us ws => match us with | [] => ws.reverse | _ :: _ => []) (fun us ws => match us with | [] => ws.reverse | _ :: _ => []) := by
  refine ⟨fun s us ws _ hl => ?_, fun r rz => by
    cases r with
    | nil => exact revs rz
    | cons _ _ => exact .nil⟩
  cases us with
  | cons u us =>
    have hl : (0 : Nat) = 2 := hl
    cases hl
  | nil =>
    have hl : ws.length = 2 := by
      have h2 : ws.reverse.length = 2 := hl
      rw [List.length_reverse] at h2
      exact h2
    match ws, hl with
    | [a, b], _ => exact .of_eq rfl
end
theorem law_mk {P : Program} {w : World} {K : PySem.W.Frag} {h : Heap} {mg : Str → Option Value} {fa f : Addr} {oc : Value} {od an : Option Addr} {osl : Array (Option Value)} {kV doc pm cdv ct : Value} (X : K.In h) (G : h.Ns mainGlobals mg) (hfa : mg "law" = some (.ref fa)) (a : PySem.W.nsIn K mainGlobals "law" = some (some (.ref f)))
    (l : K.lookup f = some ⟨oc, od, .func (PySem.W.fnOf "law" "law" (defArgs s_law) (defBody s_law) (defScope s_law) .none kV doc pm an cdv ct), osl⟩) (c : PySem.W.codeIn K cdv "law" = true) (k : PySem.W.keepIn K (.ref f) = true)
    (run : ∀ (base : Heap) (fd : FuncData), Fun K "law" "law" s_law f fd → FnG P w K mg base 7 f fd p_law (sp_law K)) :
    ∃ fd : FuncData, (∀ (s : Shared) (u : Value), BindsTo s fd ⟨[u], []⟩ [("_law_script", u)]) ∧ ∀ base : Heap, K.In base → base.Ns mainGlobals mg → FnG P w K mg base 7 fa fd ["_law_script"] (sp_law K) := by
  cases hfa.symm.trans (PySem.W.mg_of X G a)
  exact ⟨_, fun s v => .of_eq rfl, fun base _ _ => run base _ (fun_mk l c k)⟩
end K74
/-! the end -/
namespace K74
open PySem PySem.Spec PyProof.Rows L2
section
variable {P : Program} {w : World} {K : PySem.W.Frag} {mg : Str → Option Value} {base : Heap}
/-- all defs together -/
theorem all_law {f : Addr} {fd : FuncData} (F : Fun K "law" "law" s_law f fd) (B : Bt mg)
    (D_is_whole : Dfn K mg "is_whole" s_is_whole p_is_whole)
    (D_is_between : Dfn K mg "is_between" s_is_between p_is_between)
    (D_check_number : Dfn K mg "check_number" s_check_number p_check_number)
    (D_is_letters_alone : Dfn K mg "is_letters_alone" s_is_letters_alone p_is_letters_alone)
    (D_check_word : Dfn K mg "check_word" s_check_word p_check_word)
    (D_rises : Dfn K mg "rises" s_rises p_rises)
    (D_is_letters_in_order : Dfn K mg "is_letters_in_order" s_is_letters_in_order p_is_letters_in_order)
    (D_check_joints : Dfn K mg "check_joints" s_check_joints p_check_joints)
    (D_check_size : Dfn K mg "check_size" s_check_size p_check_size)
    (D_is_program : Dfn K mg "is_program" s_is_program p_is_program)
    (D_check_program : Dfn K mg "check_program" s_check_program p_check_program)
    (D_moved_by : Dfn K mg "moved_by" s_moved_by p_moved_by)
    (D_goals_of : Dfn K mg "goals_of" s_goals_of p_goals_of)
    (D_last_unlike : Dfn K mg "last_unlike" s_last_unlike p_last_unlike)
    (D_rounds_of : Dfn K mg "rounds_of" s_rounds_of p_rounds_of)
    (D_often : Dfn K mg "often" s_often p_often)
    (D_common_times : Dfn K mg "common_times" s_common_times p_common_times)
    (D_order_of : Dfn K mg "order_of" s_order_of p_order_of)
    (D_check_pair : Dfn K mg "check_pair" s_check_pair p_check_pair)
    (D_parts_of : Dfn K mg "parts_of" s_parts_of p_parts_of)
    (D_check_numbers : Dfn K mg "check_numbers" s_check_numbers p_check_numbers)
    (D_turn_of : Dfn K mg "turn_of" s_turn_of p_turn_of)
    (D_put_together : Dfn K mg "put_together" s_put_together p_put_together)
    (D_done_by_numbers : Dfn K mg "done_by_numbers" s_done_by_numbers p_done_by_numbers)
    (D_done_by_numbers_often : Dfn K mg "done_by_numbers_often" s_done_by_numbers_often p_done_by_numbers_often)
    (D_numbers_parting : Dfn K mg "numbers_parting" s_numbers_parting p_numbers_parting)
    (D_numbers_order : Dfn K mg "numbers_order" s_numbers_order p_numbers_order)
    (D_hash : Dfn K mg "_law_hash" s_hash p_hash)
    (D_random : Dfn K mg "_law_random" s_random p_random)
    (D_cell : Dfn K mg "_law_cell" s_cell p_cell)
    (D_generator : Dfn K mg "_law_generator" s_generator p_generator)
    (D_swapped : Dfn K mg "_law_swapped" s_swapped p_swapped)
    (D_moved : Dfn K mg "_law_moved" s_moved p_moved)
    (D_moves : Dfn K mg "_law_moves" s_moves p_moves)
    (D_program : Dfn K mg "_law_program" s_program p_program)
    (D_all : Dfn K mg "_law_all" s_all p_all)
    (D_count : Dfn K mg "_law_count" s_count p_count)
    (D_led : Dfn K mg "_law_led" s_led p_led)
    (D_first : Dfn K mg "_law_first" s_first p_first)
    (D_turn : Dfn K mg "_law_turn" s_turn p_turn)
    (D_two : Dfn K mg "_law_two" s_two p_two)
    (D_small_right : Dfn K mg "_law_small_right" s_small_right p_small_right)
    (D_great_right : Dfn K mg "_law_great_right" s_great_right p_great_right)
    (D_common : Dfn K mg "_law_common" s_common p_common)
    (D_orders_right : Dfn K mg "_law_orders_right" s_orders_right p_orders_right) : FnG P w K mg base 7 f fd p_law (sp_law K) := by
  have c_cell := ok_cell (P := P) (w := w) (base := base) D_cell B
  have c_generator := ok_generator (P := P) (w := w) (base := base) D_generator B c_cell
  have c_hash := ok_hash (P := P) (w := w) (base := base) D_hash B
  have c_random := ok_random (P := P) (w := w) (base := base) D_random B c_hash
  have c_program := ok_program (P := P) (w := w) (base := base) D_program B c_random
  have c_two := ok_two (P := P) (w := w) (base := base) D_two B c_random c_program
  have c_all := ok_all (P := P) (w := w) (base := base) D_all B
  have c_count := ok_count (P := P) (w := w) (base := base) D_count B
  have c_swapped := ok_swapped (P := P) (w := w) (base := base) D_swapped B
  have c_led := ok_led (P := P) (w := w) (base := base) D_led B c_swapped
  have c_first := ok_first (P := P) (w := w) (base := base) D_first B c_all c_count c_led
  have c_is_letters_alone := ok_is_letters_alone (P := P) (w := w) (base := base) D_is_letters_alone B
  have c_rises := ok_rises (P := P) (w := w) (base := base) D_rises B
  have c_is_letters_in_order := ok_is_letters_in_order (P := P) (w := w) (base := base) D_is_letters_in_order B c_is_letters_alone c_rises
  have c_check_joints := ok_check_joints (P := P) (w := w) (base := base) D_check_joints B c_is_letters_in_order
  have c_is_whole := ok_is_whole (P := P) (w := w) (base := base) D_is_whole B
  have c_is_between := ok_is_between (P := P) (w := w) (base := base) D_is_between B c_is_whole
  have c_check_number := ok_check_number (P := P) (w := w) (base := base) D_check_number B c_is_between
  have c_is_program := ok_is_program (P := P) (w := w) (base := base) D_is_program B c_is_between
  have c_check_numbers := ok_check_numbers (P := P) (w := w) (base := base) D_check_numbers B c_is_program
  have c_goals_of := ok_goals_of (P := P) (w := w) (base := base) D_goals_of B
  have c_last_unlike := ok_last_unlike (P := P) (w := w) (base := base) D_last_unlike B c_goals_of
  have c_moved_by := ok_moved_by (P := P) (w := w) (base := base) D_moved_by B
  have c_turn_of := ok_turn_of (P := P) (w := w) (base := base) D_turn_of B
  have c_numbers_parting := ok_numbers_parting (P := P) (w := w) (base := base) D_numbers_parting B c_check_joints c_check_number c_check_numbers c_last_unlike c_moved_by c_turn_of
  have ck_numbers_parting := calK_of (g := fun l => l.reverse) D_numbers_parting c_numbers_parting kb_numbers_parting
  have c_small_right := ok_small_right (P := P) (w := w) (base := base) D_small_right B c_random c_two c_first c_numbers_parting ck_numbers_parting
  have c_moved := ok_moved (P := P) (w := w) (base := base) D_moved B
  have c_moves := ok_moves (P := P) (w := w) (base := base) D_moves B c_moved
  have c_turn := ok_turn (P := P) (w := w) (base := base) D_turn B
  have c_check_word := ok_check_word (P := P) (w := w) (base := base) D_check_word B c_is_letters_alone
  have c_check_pair := ok_check_pair (P := P) (w := w) (base := base) D_check_pair B c_check_word c_check_joints
  have c_parts_of := ok_parts_of (P := P) (w := w) (base := base) D_parts_of B
  have c_put_together := ok_put_together (P := P) (w := w) (base := base) D_put_together B
  have c_done_by_numbers := ok_done_by_numbers (P := P) (w := w) (base := base) D_done_by_numbers B c_check_pair c_parts_of c_check_numbers c_put_together c_moved_by c_turn_of
  have c_great_right := ok_great_right (P := P) (w := w) (base := base) D_great_right B c_count c_moves c_random c_turn c_two c_done_by_numbers c_numbers_parting
  have c_common := ok_common (P := P) (w := w) (base := base) D_common B
  have c_rounds_of := ok_rounds_of (P := P) (w := w) (base := base) D_rounds_of B
  have c_often := ok_often (P := P) (w := w) (base := base) D_often B c_rounds_of
  have c_done_by_numbers_often := ok_done_by_numbers_often (P := P) (w := w) (base := base) D_done_by_numbers_often B c_check_pair c_parts_of c_check_numbers c_check_number c_often c_put_together c_moved_by c_turn_of
  have c_common_times := ok_common_times (P := P) (w := w) (base := base) D_common_times B
  have c_numbers_order := ok_numbers_order (P := P) (w := w) (base := base) D_numbers_order B c_check_number c_check_numbers c_turn_of c_moved_by c_rounds_of c_common_times
  have ck_numbers_order := calK_of (g := fun l => l.reverse) D_numbers_order c_numbers_order kb_numbers_order
  have c_check_size := ok_check_size (P := P) (w := w) (base := base) D_check_size B c_check_number
  have c_check_program := ok_check_program (P := P) (w := w) (base := base) D_check_program B c_is_program
  have c_order_of := ok_order_of (P := P) (w := w) (base := base) D_order_of B c_check_size c_check_program c_moved_by c_rounds_of c_common_times
  have c_orders_right := ok_orders_right (P := P) (w := w) (base := base) D_orders_right B c_common c_program c_random c_turn c_done_by_numbers_often c_numbers_order ck_numbers_order c_order_of
  exact ok_law F B c_generator c_random c_small_right c_great_right c_orders_right c_numbers_parting c_numbers_order
end
end K74
open PySem PySem.W PyProof.Rows
set_option maxHeartbeats 0 in
theorem PySem.Challenge.cw_sideswaps_k74_whole_number_lists_parted_holds : PySem.Challenge.rw_sideswaps_k74_whole_number_lists_parted.Holds := by
  w_on; o_law; k_head; (case hw => w_witness2)
  k_fill
  refine K74.walkG (l := PySem.Challenge.rw_sideswaps_k74_whole_number_lists_parted) (n := 63) (k := 7) (x := "_law_script") (sp := fun w => K74.sp_law _) rfl (by decide) rfl ⟨rfl, by decide, by decide⟩ (fun w h Y => PySem.W.kIn_of Y) ?F (fun w H a ns hl hS => ⟨a, ns, rfl, hS, hl, fun _ => rfl⟩)
  case F =>
    intro w mg fa h KX G hmg
    have D_is_whole : K74.Dfn (L2.KOf KX) mg "is_whole" K74.s_is_whole K74.p_is_whole := by
      refine' K74.dfn_mk KX G ?a ?l ?c ?k (fun _ _ _ _ _ _ us hl => match us, hl with | [_], _ => rfl)
      (case a => unfold L2.KOf; k_is); (case l => unfold L2.KOf; k_is); (case c => unfold L2.KOf; k_is); (case k => unfold L2.KOf; k_is)
    have D_is_between : K74.Dfn (L2.KOf KX) mg "is_between" K74.s_is_between K74.p_is_between := by
      refine' K74.dfn_mk KX G ?a ?l ?c ?k (fun _ _ _ _ _ _ us hl => match us, hl with | [_, _, _], _ => rfl)
      (case a => unfold L2.KOf; k_is); (case l => unfold L2.KOf; k_is); (case c => unfold L2.KOf; k_is); (case k => unfold L2.KOf; k_is)
    have D_check_number : K74.Dfn (L2.KOf KX) mg "check_number" K74.s_check_number K74.p_check_number := by
      refine' K74.dfn_mk KX G ?a ?l ?c ?k (fun _ _ _ _ _ _ us hl => match us, hl with | [_, _, _], _ => rfl)
      (case a => unfold L2.KOf; k_is); (case l => unfold L2.KOf; k_is); (case c => unfold L2.KOf; k_is); (case k => unfold L2.KOf; k_is)
    have D_is_letters_alone : K74.Dfn (L2.KOf KX) mg "is_letters_alone" K74.s_is_letters_alone K74.p_is_letters_alone := by
      refine' K74.dfn_mk KX G ?a ?l ?c ?k (fun _ _ _ _ _ _ us hl => match us, hl with | [_], _ => rfl)
      (case a => unfold L2.KOf; k_is); (case l => unfold L2.KOf; k_is); (case c => unfold L2.KOf; k_is); (case k => unfold L2.KOf; k_is)
    have D_check_word : K74.Dfn (L2.KOf KX) mg "check_word" K74.s_check_word K74.p_check_word := by
      refine' K74.dfn_mk KX G ?a ?l ?c ?k (fun _ _ _ _ _ _ us hl => match us, hl with | [_], _ => rfl)
      (case a => unfold L2.KOf; k_is); (case l => unfold L2.KOf; k_is); (case c => unfold L2.KOf; k_is); (case k => unfold L2.KOf; k_is)
    have D_rises : K74.Dfn (L2.KOf KX) mg "rises" K74.s_rises K74.p_rises := by
      refine' K74.dfn_mk KX G ?a ?l ?c ?k (fun _ _ _ _ _ _ us hl => match us, hl with | [_], _ => rfl)
      (case a => unfold L2.KOf; k_is); (case l => unfold L2.KOf; k_is); (case c => unfold L2.KOf; k_is); (case k => unfold L2.KOf; k_is)
    have D_is_letters_in_order : K74.Dfn (L2.KOf KX) mg "is_letters_in_order" K74.s_is_letters_in_order K74.p_is_letters_in_order := by
      refine' K74.dfn_mk KX G ?a ?l ?c ?k (fun _ _ _ _ _ _ us hl => match us, hl with | [_], _ => rfl)
      (case a => unfold L2.KOf; k_is); (case l => unfold L2.KOf; k_is); (case c => unfold L2.KOf; k_is); (case k => unfold L2.KOf; k_is)
    have D_check_joints : K74.Dfn (L2.KOf KX) mg "check_joints" K74.s_check_joints K74.p_check_joints := by
      refine' K74.dfn_mk KX G ?a ?l ?c ?k (fun _ _ _ _ _ _ us hl => match us, hl with | [_], _ => rfl)
      (case a => unfold L2.KOf; k_is); (case l => unfold L2.KOf; k_is); (case c => unfold L2.KOf; k_is); (case k => unfold L2.KOf; k_is)
    have D_check_size : K74.Dfn (L2.KOf KX) mg "check_size" K74.s_check_size K74.p_check_size := by
      refine' K74.dfn_mk KX G ?a ?l ?c ?k (fun _ _ _ _ _ _ us hl => match us, hl with | [_], _ => rfl)
      (case a => unfold L2.KOf; k_is); (case l => unfold L2.KOf; k_is); (case c => unfold L2.KOf; k_is); (case k => unfold L2.KOf; k_is)
    have D_is_program : K74.Dfn (L2.KOf KX) mg "is_program" K74.s_is_program K74.p_is_program := by
      refine' K74.dfn_mk KX G ?a ?l ?c ?k (fun _ _ _ _ _ _ us hl => match us, hl with | [_, _], _ => rfl)
      (case a => unfold L2.KOf; k_is); (case l => unfold L2.KOf; k_is); (case c => unfold L2.KOf; k_is); (case k => unfold L2.KOf; k_is)
    have D_check_program : K74.Dfn (L2.KOf KX) mg "check_program" K74.s_check_program K74.p_check_program := by
      refine' K74.dfn_mk KX G ?a ?l ?c ?k (fun _ _ _ _ _ _ us hl => match us, hl with | [_, _], _ => rfl)
      (case a => unfold L2.KOf; k_is); (case l => unfold L2.KOf; k_is); (case c => unfold L2.KOf; k_is); (case k => unfold L2.KOf; k_is)
    have D_moved_by : K74.Dfn (L2.KOf KX) mg "moved_by" K74.s_moved_by K74.p_moved_by := by
      refine' K74.dfn_mk KX G ?a ?l ?c ?k (fun _ _ _ _ _ _ us hl => match us, hl with | [_, _], _ => rfl)
      (case a => unfold L2.KOf; k_is); (case l => unfold L2.KOf; k_is); (case c => unfold L2.KOf; k_is); (case k => unfold L2.KOf; k_is)
    have D_goals_of : K74.Dfn (L2.KOf KX) mg "goals_of" K74.s_goals_of K74.p_goals_of := by
      refine' K74.dfn_mk KX G ?a ?l ?c ?k (fun _ _ _ _ _ _ us hl => match us, hl with | [_], _ => rfl)
      (case a => unfold L2.KOf; k_is); (case l => unfold L2.KOf; k_is); (case c => unfold L2.KOf; k_is); (case k => unfold L2.KOf; k_is)
    have D_last_unlike : K74.Dfn (L2.KOf KX) mg "last_unlike" K74.s_last_unlike K74.p_last_unlike := by
      refine' K74.dfn_mk KX G ?a ?l ?c ?k (fun _ _ _ _ _ _ us hl => match us, hl with | [_, _], _ => rfl)
      (case a => unfold L2.KOf; k_is); (case l => unfold L2.KOf; k_is); (case c => unfold L2.KOf; k_is); (case k => unfold L2.KOf; k_is)
    have D_rounds_of : K74.Dfn (L2.KOf KX) mg "rounds_of" K74.s_rounds_of K74.p_rounds_of := by
      refine' K74.dfn_mk KX G ?a ?l ?c ?k (fun _ _ _ _ _ _ us hl => match us, hl with | [_], _ => rfl)
      (case a => unfold L2.KOf; k_is); (case l => unfold L2.KOf; k_is); (case c => unfold L2.KOf; k_is); (case k => unfold L2.KOf; k_is)
    have D_often : K74.Dfn (L2.KOf KX) mg "often" K74.s_often K74.p_often := by
      refine' K74.dfn_mk KX G ?a ?l ?c ?k (fun _ _ _ _ _ _ us hl => match us, hl with | [_, _], _ => rfl)
      (case a => unfold L2.KOf; k_is); (case l => unfold L2.KOf; k_is); (case c => unfold L2.KOf; k_is); (case k => unfold L2.KOf; k_is)
    have D_common_times : K74.Dfn (L2.KOf KX) mg "common_times" K74.s_common_times K74.p_common_times := by
      refine' K74.dfn_mk KX G ?a ?l ?c ?k (fun _ _ _ _ _ _ us hl => match us, hl with | [_], _ => rfl)
      (case a => unfold L2.KOf; k_is); (case l => unfold L2.KOf; k_is); (case c => unfold L2.KOf; k_is); (case k => unfold L2.KOf; k_is)
    have D_order_of : K74.Dfn (L2.KOf KX) mg "order_of" K74.s_order_of K74.p_order_of := by
      refine' K74.dfn_mk KX G ?a ?l ?c ?k (fun _ _ _ _ _ _ us hl => match us, hl with | [_, _], _ => rfl)
      (case a => unfold L2.KOf; k_is); (case l => unfold L2.KOf; k_is); (case c => unfold L2.KOf; k_is); (case k => unfold L2.KOf; k_is)
    have D_check_pair : K74.Dfn (L2.KOf KX) mg "check_pair" K74.s_check_pair K74.p_check_pair := by
      refine' K74.dfn_mk KX G ?a ?l ?c ?k (fun _ _ _ _ _ _ us hl => match us, hl with | [_, _], _ => rfl)
      (case a => unfold L2.KOf; k_is); (case l => unfold L2.KOf; k_is); (case c => unfold L2.KOf; k_is); (case k => unfold L2.KOf; k_is)
    have D_parts_of : K74.Dfn (L2.KOf KX) mg "parts_of" K74.s_parts_of K74.p_parts_of := by
      refine' K74.dfn_mk KX G ?a ?l ?c ?k (fun _ _ _ _ _ _ us hl => match us, hl with | [_, _], _ => rfl)
      (case a => unfold L2.KOf; k_is); (case l => unfold L2.KOf; k_is); (case c => unfold L2.KOf; k_is); (case k => unfold L2.KOf; k_is)
    have D_check_numbers : K74.Dfn (L2.KOf KX) mg "check_numbers" K74.s_check_numbers K74.p_check_numbers := by
      refine' K74.dfn_mk KX G ?a ?l ?c ?k (fun _ _ _ _ _ _ us hl => match us, hl with | [_, _], _ => rfl)
      (case a => unfold L2.KOf; k_is); (case l => unfold L2.KOf; k_is); (case c => unfold L2.KOf; k_is); (case k => unfold L2.KOf; k_is)
    have D_turn_of : K74.Dfn (L2.KOf KX) mg "turn_of" K74.s_turn_of K74.p_turn_of := by
      refine' K74.dfn_mk KX G ?a ?l ?c ?k (fun _ _ _ _ _ _ us hl => match us, hl with | [_], _ => rfl)
      (case a => unfold L2.KOf; k_is); (case l => unfold L2.KOf; k_is); (case c => unfold L2.KOf; k_is); (case k => unfold L2.KOf; k_is)
    have D_put_together : K74.Dfn (L2.KOf KX) mg "put_together" K74.s_put_together K74.p_put_together := by
      refine' K74.dfn_mk KX G ?a ?l ?c ?k (fun _ _ _ _ _ _ us hl => match us, hl with | [_, _, _, _], _ => rfl)
      (case a => unfold L2.KOf; k_is); (case l => unfold L2.KOf; k_is); (case c => unfold L2.KOf; k_is); (case k => unfold L2.KOf; k_is)
    have D_done_by_numbers : K74.Dfn (L2.KOf KX) mg "done_by_numbers" K74.s_done_by_numbers K74.p_done_by_numbers := by
      refine' K74.dfn_mk KX G ?a ?l ?c ?k (fun _ _ _ _ _ _ us hl => match us, hl with | [_, _, _], _ => rfl)
      (case a => unfold L2.KOf; k_is); (case l => unfold L2.KOf; k_is); (case c => unfold L2.KOf; k_is); (case k => unfold L2.KOf; k_is)
    have D_done_by_numbers_often : K74.Dfn (L2.KOf KX) mg "done_by_numbers_often" K74.s_done_by_numbers_often K74.p_done_by_numbers_often := by
      refine' K74.dfn_mk KX G ?a ?l ?c ?k (fun _ _ _ _ _ _ us hl => match us, hl with | [_, _, _, _], _ => rfl)
      (case a => unfold L2.KOf; k_is); (case l => unfold L2.KOf; k_is); (case c => unfold L2.KOf; k_is); (case k => unfold L2.KOf; k_is)
    have D_numbers_parting : K74.Dfn (L2.KOf KX) mg "numbers_parting" K74.s_numbers_parting K74.p_numbers_parting := by
      refine' K74.dfn_mk KX G ?a ?l ?c ?k (fun _ _ _ _ _ _ us hl => match us, hl with | [_, _, _, _], _ => rfl)
      (case a => unfold L2.KOf; k_is); (case l => unfold L2.KOf; k_is); (case c => unfold L2.KOf; k_is); (case k => unfold L2.KOf; k_is)
    have D_numbers_order : K74.Dfn (L2.KOf KX) mg "numbers_order" K74.s_numbers_order K74.p_numbers_order := by
      refine' K74.dfn_mk KX G ?a ?l ?c ?k (fun _ _ _ _ _ _ us hl => match us, hl with | [_, _], _ => rfl)
      (case a => unfold L2.KOf; k_is); (case l => unfold L2.KOf; k_is); (case c => unfold L2.KOf; k_is); (case k => unfold L2.KOf; k_is)
    have D_hash : K74.Dfn (L2.KOf KX) mg "_law_hash" K74.s_hash K74.p_hash := by
      refine' K74.dfn_mk KX G ?a ?l ?c ?k (fun _ _ _ _ _ _ us hl => match us, hl with | [_, _], _ => rfl)
      (case a => unfold L2.KOf; k_is); (case l => unfold L2.KOf; k_is); (case c => unfold L2.KOf; k_is); (case k => unfold L2.KOf; k_is)
    have D_random : K74.Dfn (L2.KOf KX) mg "_law_random" K74.s_random K74.p_random := by
      refine' K74.dfn_mk KX G ?a ?l ?c ?k (fun _ _ _ _ _ _ us hl => match us, hl with | [_, _], _ => rfl)
      (case a => unfold L2.KOf; k_is); (case l => unfold L2.KOf; k_is); (case c => unfold L2.KOf; k_is); (case k => unfold L2.KOf; k_is)
    have D_cell : K74.Dfn (L2.KOf KX) mg "_law_cell" K74.s_cell K74.p_cell := by
      refine' K74.dfn_mk KX G ?a ?l ?c ?k (fun _ _ _ _ _ _ us hl => match us, hl with | [_, _], _ => rfl)
      (case a => unfold L2.KOf; k_is); (case l => unfold L2.KOf; k_is); (case c => unfold L2.KOf; k_is); (case k => unfold L2.KOf; k_is)
    have D_generator : K74.Dfn (L2.KOf KX) mg "_law_generator" K74.s_generator K74.p_generator := by
      refine' K74.dfn_mk KX G ?a ?l ?c ?k (fun _ _ _ _ _ _ us hl => match us, hl with | [_, _], _ => rfl)
      (case a => unfold L2.KOf; k_is); (case l => unfold L2.KOf; k_is); (case c => unfold L2.KOf; k_is); (case k => unfold L2.KOf; k_is)
    have D_swapped : K74.Dfn (L2.KOf KX) mg "_law_swapped" K74.s_swapped K74.p_swapped := by
      refine' K74.dfn_mk KX G ?a ?l ?c ?k (fun _ _ _ _ _ _ us hl => match us, hl with | [_, _], _ => rfl)
      (case a => unfold L2.KOf; k_is); (case l => unfold L2.KOf; k_is); (case c => unfold L2.KOf; k_is); (case k => unfold L2.KOf; k_is)
    have D_moved : K74.Dfn (L2.KOf KX) mg "_law_moved" K74.s_moved K74.p_moved := by
      refine' K74.dfn_mk KX G ?a ?l ?c ?k (fun _ _ _ _ _ _ us hl => match us, hl with | [_, _], _ => rfl)
      (case a => unfold L2.KOf; k_is); (case l => unfold L2.KOf; k_is); (case c => unfold L2.KOf; k_is); (case k => unfold L2.KOf; k_is)
    have D_moves : K74.Dfn (L2.KOf KX) mg "_law_moves" K74.s_moves K74.p_moves := by
      refine' K74.dfn_mk KX G ?a ?l ?c ?k (fun _ _ _ _ _ _ us hl => match us, hl with | [_, _], _ => rfl)
      (case a => unfold L2.KOf; k_is); (case l => unfold L2.KOf; k_is); (case c => unfold L2.KOf; k_is); (case k => unfold L2.KOf; k_is)
    have D_program : K74.Dfn (L2.KOf KX) mg "_law_program" K74.s_program K74.p_program := by
      refine' K74.dfn_mk KX G ?a ?l ?c ?k (fun _ _ _ _ _ _ us hl => match us, hl with | [_, _, _], _ => rfl)
      (case a => unfold L2.KOf; k_is); (case l => unfold L2.KOf; k_is); (case c => unfold L2.KOf; k_is); (case k => unfold L2.KOf; k_is)
    have D_all : K74.Dfn (L2.KOf KX) mg "_law_all" K74.s_all K74.p_all := by
      refine' K74.dfn_mk KX G ?a ?l ?c ?k (fun _ _ _ _ _ _ us hl => match us, hl with | [_, _], _ => rfl)
      (case a => unfold L2.KOf; k_is); (case l => unfold L2.KOf; k_is); (case c => unfold L2.KOf; k_is); (case k => unfold L2.KOf; k_is)
    have D_count : K74.Dfn (L2.KOf KX) mg "_law_count" K74.s_count K74.p_count := by
      refine' K74.dfn_mk KX G ?a ?l ?c ?k (fun _ _ _ _ _ _ us hl => match us, hl with | [_, _], _ => rfl)
      (case a => unfold L2.KOf; k_is); (case l => unfold L2.KOf; k_is); (case c => unfold L2.KOf; k_is); (case k => unfold L2.KOf; k_is)
    have D_led : K74.Dfn (L2.KOf KX) mg "_law_led" K74.s_led K74.p_led := by
      refine' K74.dfn_mk KX G ?a ?l ?c ?k (fun _ _ _ _ _ _ us hl => match us, hl with | [_, _, _], _ => rfl)
      (case a => unfold L2.KOf; k_is); (case l => unfold L2.KOf; k_is); (case c => unfold L2.KOf; k_is); (case k => unfold L2.KOf; k_is)
    have D_first : K74.Dfn (L2.KOf KX) mg "_law_first" K74.s_first K74.p_first := by
      refine' K74.dfn_mk KX G ?a ?l ?c ?k (fun _ _ _ _ _ _ us hl => match us, hl with | [_, _, _, _, _], _ => rfl)
      (case a => unfold L2.KOf; k_is); (case l => unfold L2.KOf; k_is); (case c => unfold L2.KOf; k_is); (case k => unfold L2.KOf; k_is)
    have D_turn : K74.Dfn (L2.KOf KX) mg "_law_turn" K74.s_turn K74.p_turn := by
      refine' K74.dfn_mk KX G ?a ?l ?c ?k (fun _ _ _ _ _ _ us hl => match us, hl with | [_, _], _ => rfl)
      (case a => unfold L2.KOf; k_is); (case l => unfold L2.KOf; k_is); (case c => unfold L2.KOf; k_is); (case k => unfold L2.KOf; k_is)
    have D_two : K74.Dfn (L2.KOf KX) mg "_law_two" K74.s_two K74.p_two := by
      refine' K74.dfn_mk KX G ?a ?l ?c ?k (fun _ _ _ _ _ _ us hl => match us, hl with | [_, _], _ => rfl)
      (case a => unfold L2.KOf; k_is); (case l => unfold L2.KOf; k_is); (case c => unfold L2.KOf; k_is); (case k => unfold L2.KOf; k_is)
    have D_small_right : K74.Dfn (L2.KOf KX) mg "_law_small_right" K74.s_small_right K74.p_small_right := by
      refine' K74.dfn_mk KX G ?a ?l ?c ?k (fun _ _ _ _ _ _ us hl => match us, hl with | [_], _ => rfl)
      (case a => unfold L2.KOf; k_is); (case l => unfold L2.KOf; k_is); (case c => unfold L2.KOf; k_is); (case k => unfold L2.KOf; k_is)
    have D_great_right : K74.Dfn (L2.KOf KX) mg "_law_great_right" K74.s_great_right K74.p_great_right := by
      refine' K74.dfn_mk KX G ?a ?l ?c ?k (fun _ _ _ _ _ _ us hl => match us, hl with | [_, _], _ => rfl)
      (case a => unfold L2.KOf; k_is); (case l => unfold L2.KOf; k_is); (case c => unfold L2.KOf; k_is); (case k => unfold L2.KOf; k_is)
    have D_common : K74.Dfn (L2.KOf KX) mg "_law_common" K74.s_common K74.p_common := by
      refine' K74.dfn_mk KX G ?a ?l ?c ?k (fun _ _ _ _ _ _ us hl => match us, hl with | [_, _], _ => rfl)
      (case a => unfold L2.KOf; k_is); (case l => unfold L2.KOf; k_is); (case c => unfold L2.KOf; k_is); (case k => unfold L2.KOf; k_is)
    have D_orders_right : K74.Dfn (L2.KOf KX) mg "_law_orders_right" K74.s_orders_right K74.p_orders_right := by
      refine' K74.dfn_mk KX G ?a ?l ?c ?k (fun _ _ _ _ _ _ us hl => match us, hl with | [_, _], _ => rfl)
      (case a => unfold L2.KOf; k_is); (case l => unfold L2.KOf; k_is); (case c => unfold L2.KOf; k_is); (case k => unfold L2.KOf; k_is)
    have B : K74.Bt mg := by
      refine' ⟨PySem.W.mg_none_of KX G ?n_len, PySem.W.mg_none_of KX G ?n_range, PySem.W.mg_none_of KX G ?n_isinstance, PySem.W.mg_none_of KX G ?n_int, PySem.W.mg_none_of KX G ?n_str, PySem.W.mg_none_of KX G ?n_list, PySem.W.mg_none_of KX G ?n_bool, PySem.W.mg_none_of KX G ?n_sum, PySem.W.mg_none_of KX G ?n_enumerate, PySem.W.mg_none_of KX G ?n_min, PySem.W.mg_none_of KX G ?n_max, PySem.W.mg_none_of KX G ?n_repr, PySem.W.mg_of KX G ?g, K74.bt_str KX G ?s ?u, K74.bt_int KX G ?m, K74.bt_int KX G ?n⟩
      (case n_len => k_is); (case n_range => k_is); (case n_isinstance => k_is); (case n_int => k_is); (case n_str => k_is); (case n_list => k_is); (case n_bool => k_is); (case n_sum => k_is); (case n_enumerate => k_is); (case n_min => k_is); (case n_max => k_is); (case n_repr => k_is); (case g => k_is); (case s => k_is); (case m => k_is); (case n => k_is); (case u => decide +kernel)
    refine' K74.law_mk KX G hmg ?a ?l ?c ?k (fun base fd F => K74.all_law F B D_is_whole D_is_between D_check_number D_is_letters_alone D_check_word D_rises D_is_letters_in_order D_check_joints D_check_size D_is_program D_check_program D_moved_by D_goals_of D_last_unlike D_rounds_of D_often D_common_times D_order_of D_check_pair D_parts_of D_check_numbers D_turn_of D_put_together D_done_by_numbers D_done_by_numbers_often D_numbers_parting D_numbers_order D_hash D_random D_cell D_generator D_swapped D_moved D_moves D_program D_all D_count D_led D_first D_turn D_two D_small_right D_great_right D_common D_orders_right)
    (case a => k_is); (case l => k_is); (case c => k_is); (case k => k_is)
