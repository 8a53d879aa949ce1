import PyProof.Rows.All
import Wide.All
import OpenK.AllK
import Wide.FinOn
import HandS.ForMost
import HandS.Exc
import HandS.WordsExc
import HandS.ExcOwn
import HandS.TupAny
import HandS.IsInst
import HandS.Evl
import HandS.Steps
import HandS.TryMany
import PyProof.ReprRoads
import PyProof.ListStr
import PyProof.Draws
import PyProof.EnumFor
import PyProof.EnumMake
import HandS.Ends
import KE.KLam
import KE.KNestM
import HandS.Lambda
import HandS.EndTab
import HandS.ReplaceLit
import KE.KUnpackStar
import HandS.MapJoin
import HandS.Deep
import HandS.Dict
import HandS.More
import HandS.Star
import HandS.ExcInit
import HandS.ExcField
import PyProof.Rows.RegFStrParts
import HandS.Flow
import HandS.TupMul
import HandS.Zip
import PyProof.Rows.StrSplitJoin
import PyProof.Rows.StrItems
import PyProof.P3Eq
import PySem.Challenge.RW_cleandress_k76_histories_there_and_back
set_option Elab.async false
set_option linter.all false
set_option maxRecDepth 100000
set_option maxHeartbeats 4000000
/-! ### rules that the layer lacks -/
namespace Lk
open PySem PySem.Spec PyProof.Rows L2 Evl
def CPowB (i j : Int) : Prop := 0 ≤ j ∧ (Builtin.Int.intBits i : Int) * j ≤ 2 ^ 27
section
variable {X : Cx}
theorem op_powB : OpR X (binaryOp .Pow) (rI CPowB fun i j => .int (i ^ j.toNat)) := opI fun _ _ _ _ _ _ _ hc q => pow_int hc.1 hc.2 q
/-- text * n, 0 ≤ n -/
def repS (x : Str) (n : Nat) : Str := ⟨(List.replicate n x.cps.toList).flatten.toArray⟩
theorem foldl_app (x : Array Nat) : ∀ (n : Nat) (acc : Array Nat), (List.replicate n x).foldl (· ++ ·) acc = acc ++ (List.replicate n x.toList).flatten.toArray
  | 0, acc => by simp
  | n + 1, acc => by
    rw [List.replicate_succ, List.foldl_cons, foldl_app x n, List.replicate_succ, List.flatten_cons]
    apply Array.ext'
    simp
theorem repS_fold (x : Str) (n : Nat) : (⟨(List.replicate n x.cps).foldl (· ++ ·) #[]⟩ : Str) = repS x n := by
  unfold repS
  rw [foldl_app]
  simp
theorem repS_zero (x : Str) : repS x 0 = Str.empty := by simp [repS, Str.empty]
theorem repS_one (x : Str) : repS x 1 = x := by cases x; simp [repS]
theorem op_rep_str : OpR X (binaryOp .Mult) (fun x y H Q => ∃ (z : Str) (n : Nat), x = .str z ∧ y = .int n ∧ z.length * n ≤ 16777216 ∧ n ≤ 16777216 ∧ Q (.str (repS z n)) H) := by
  intro pins s σ H x y v u Q I r1 r2 h
  obtain ⟨z, n, e1, e2, hz, hn, q⟩ := h
  subst e1; subst e2
  obtain ⟨t, rfl⟩ := r1
  obtain ⟨t', rfl⟩ := r2
  by_cases h0 : n = 0
  · subst h0
    exact P.mul_str_none (by omega) (by omega) ⟨.str Str.empty, H, I.tok _, ⟨_, rfl⟩, by rw [← repS_zero z]; exact q⟩
  · have hzl : z.length * n ≤ 16777216 := hz
    refine P.mul_str (by rw [decide_eq_false (show ¬ ((n : Int) < -(2 ^ 63)) by omega), decide_eq_false (show ¬ ((n : Int) ≥ 2 ^ 63) by omega)]; rfl) (fun _ _ => ?_) (fun _ _ => ?_) ?_
    · have h1 : (0 : Int) < n := by omega
      have h2 : (z.length : Int) * n ≤ 16777216 := by
        have h3 : ((z.length * n : Nat) : Int) ≤ ((16777216 : Nat) : Int) := Int.ofNat_le.mpr hzl
        rw [Int.natCast_mul] at h3
        exact h3
      have : (z.length : Int) ≤ (2 ^ 63 - 1) / n := by
        rw [Int.le_ediv_iff_mul_le h1]
        omega
      omega
    · unfold PySem.Builtin.Str.tooLong
      have e := sizeLine_eq
      simp only [Int.toNat_natCast, decide_eq_false_iff_not]
      omega
    · rw [if_neg (by omega)]
      by_cases h3 : ((n : Int) == 1 || z.length == 0) = true
      · rw [if_pos h3]
        refine ⟨.str z, H, I, ⟨t, rfl⟩, ?_⟩
        have : repS z n = z := by
          rcases Bool.or_eq_true _ _ ▸ h3 with h | h
          · have : n = 1 := by have := beq_iff_eq.mp h; omega
            rw [this, repS_one]
          · have h' : z.length = 0 := beq_iff_eq.mp h
            have hz0 : z.cps.toList = [] := by
              have : z.cps.size = 0 := h'
              exact List.eq_nil_of_length_eq_zero (by simpa using this)
            cases z with
            | mk c =>
              simp only at hz0
              simp only [repS, hz0]
              have : c = #[] := by apply Array.ext'; simpa using hz0
              rw [this]
              congr 1
              apply Array.ext'
              simp
        rw [← this]; exact q
      · rw [if_neg h3]
        refine ⟨?_, ⟨.str _, H, I.tok _, ⟨_, rfl⟩, ?_⟩⟩
        · rw [repS_fold]
          have e := sizeLine_eq
          simp only [Int.toNat_natCast, repS, Str.length]
          simp only [List.size_toArray, List.length_flatten, List.map_replicate, List.sum_replicate_nat, Array.length_toList]
          have : z.cps.size * n ≤ 16777216 := hzl
          rw [Nat.mul_comm]; omega
        · rw [repS_fold, Int.toNat_natCast]; exact q
/-! ### list(text) -/
def sgn (c : Nat) : Str := ⟨#[c]⟩
theorem vals_of_get : ∀ {xs : List V} {us : List Value}, xs.length = us.length → (∀ (i : Nat) (x : V) (u : Value), xs[i]? = some x → us[i]? = some u → RelV x u) → Vals xs us
  | [], [], _, _ => .nil
  | [], _ :: _, h, _ => by simp at h
  | _ :: _, [], h, _ => by simp at h
  | x :: xs, u :: us, h, f => .cons (f 0 x u rfl rfl) (vals_of_get (by simpa using h) fun i y w e1 e2 => f (i + 1) y w (by simpa using e1) (by simpa using e2))
theorem items_vals {x : Str} {acc : Array Value} (h : ItemsOf (SignAt x) acc x.cps.size) : Vals (x.cps.toList.map fun c => V.str (sgn c)) acc.toList := by
  refine vals_of_get (by simp [h.1]) fun i y w e1 e2 => ?_
  obtain ⟨c, u, hc, rfl⟩ := h.2 i w (by simpa using e2)
  rw [List.getElem?_map] at e1
  have e3 : x.cps.toList[i]? = some c := by simpa using hc
  rw [e3] at e1
  cases e1
  exact ⟨u, rfl⟩
theorem call_list_str (hc : X.calm = true) : CallR X (.type "list") (fun xs H Q => ∃ z : Str, xs = [.str z] ∧ z.length ≤ sizeLine ∧ ∀ l, H l = none → Q (.ref l) (upd H l (.lst (z.cps.toList.map fun c => .str (sgn c))))) := by
  intro pins s σ H xs us Q I r h
  obtain ⟨z, rfl, hz, q⟩ := h
  obtain ⟨u, rfl, ru⟩ := Vals.one r
  obtain ⟨t, rfl⟩ := ru
  refine PySem.call_list_str (I.ok.hd hc) z t (fun h' tk acc' c' hk hS hacc => ?_) hz
  have hv := items_vals hacc
  have hz' : (z.cps.toList.map fun c => V.str (sgn c)).length ≤ sizeLine := by rw [List.length_map, Array.length_toList]; exact hz
  have ob : ObjOk X.prog X.w (upd H s.heap.objs.size (.lst (z.cps.toList.map fun c => .str (sgn c)))) h' s.heap.objs.size (.lst (z.cps.toList.map fun c => .str (sgn c))) :=
    ⟨hz', acc'.toList, c', hv, by simpa using hS⟩
  exact ⟨.ref s.heap.objs.size, _, I.laid (t' := tk) hk (Nat.le_refl _) ob, rfl, q _ I.fresh⟩
/-! ### repr of data -/
theorem repr_bool_shown (b : Bool) : (PyData.bool b).shown = if b = true then Str.ofString "True" else Str.ofString "False" := by cases b <;> rfl
theorem call_reprS : CallR X (.builtin "repr") (fun xs H Q => (∃ b, xs = [.bl b] ∧ Q (.str (PyData.bool b).shown) H) ∨ (xs = [.non] ∧ Q (.str PyData.none.shown) H) ∨ (∃ z : Str, xs = [.str z] ∧ (PyData.str z).shown.length ≤ sizeLine ∧ Q (.str (PyData.str z).shown) H) ∨ ∃ i : Int, xs = [.int i] ∧ i.natAbs.log2 < 1920 ∧ Q (.str (PyData.int i).shown) H) := by
  intro pins s σ H xs us Q I r h
  rcases h with ⟨b, rfl, q⟩ | ⟨rfl, q⟩ | ⟨z, rfl, hz, q⟩ | ⟨i, rfl, hi, q⟩
  · obtain ⟨u, rfl, ru⟩ := Vals.one r
    cases ru
    exact P.repr_of_bool ⟨.str _, H, I.tok _, ⟨_, rfl⟩, by rw [← repr_bool_shown]; exact q⟩
  · obtain ⟨u, rfl, ru⟩ := Vals.one r
    cases ru
    exact P.repr_of_none ⟨.str _, H, I.tok _, ⟨_, rfl⟩, q⟩
  · obtain ⟨u, rfl, ru⟩ := Vals.one r
    obtain ⟨t, rfl⟩ := ru
    exact P.repr_of_str ⟨.str _, H, I.tok _, ⟨_, rfl⟩, q⟩ hz
  · obtain ⟨u, rfl, ru⟩ := Vals.one r
    obtain ⟨t, rfl⟩ := ru
    exact P.repr_of_int hi ⟨.str _, H, I.tok _, ⟨_, rfl⟩, q⟩
def NoDict : PyData → Prop := fun d => d.hasDict = false
theorem call_reprD (hu : X.A.units + 64 < cLine) (hg : X.A.guards = some []) : CallR X (.builtin "repr") (fun xs H Q => ∃ (a : Addr) (d : PyData), xs = [.ref a] ∧ Dp X.K H (.ref a) d ∧ d.showable = true ∧ d.hasDict = false ∧ d.depth ≤ 60 ∧ d.shown.length ≤ sizeLine ∧ Q (.str d.shown) H) := by
  intro pins s σ H xs us Q I r h
  obtain ⟨a, d, rfl, hd, h1, h2, h3, h4, q⟩ := h
  obtain ⟨u, rfl, ru⟩ := Vals.one r
  obtain ⟨as, r1⟩ := Dp.reads I d _ u hd ru
  cases ru
  exact repr_of_reads' r1 h1 (fun z => by rw [h2] at z; cases z) hg (by omega) (fun _ _ e => e) (fun h' u tk hk => ⟨.str _, H, I.kept (t' := tk) hk, ⟨_, rfl⟩, q⟩) h4
end
/-! ### walks of texts -/
theorem for_str {x : Str} {g : TG} {tb : TS} {D : Ends} {σ : L2.St} {H : Hp} (Pv : Nat → L2.St → Hp → Prop) (h0 : Pv 0 σ H)
    (hs : ∀ i c σ H, x.cps.toList[i]? = some c → Pv i σ H → g (.str (sgn c)) σ H fun σ2 H2 => tb { D with nx := Pv (i + 1), ct := Pv (i + 1), bk := D.nx } σ2 H2) (hd : ∀ σ H, Pv x.cps.toList.length σ H → D.nx σ H) :
    ∃ W : Nat → Nat → L2.St → Hp → Prop, (∃ m, W 0 m σ H) ∧ ∀ i m σ H, W i m σ H →
      ((Its x).stop i H ∧ D.nx σ H) ∨ ((Its x).go i H ∧ ∃ N : L2.St → Hp → Prop, (∀ σ' H', N σ' H' → ∃ m', m' < m ∧ W (i + 1) m' σ' H') ∧ ∀ x' H', (Its x).yld i H x' H' → g x' σ H' fun σ2 H2 => tb { D with nx := N, ct := N, bk := D.nx } σ2 H2) := by
  refine ⟨fun i m σ H => m = x.cps.toList.length - i ∧ i ≤ x.cps.toList.length ∧ Pv i σ H, ⟨_, rfl, Nat.zero_le _, h0⟩, ?_⟩
  rintro i m σ H ⟨rfl, hi, p⟩
  by_cases hlt : i < x.cps.toList.length
  · refine .inr ⟨by simpa [Its] using hlt, Pv (i + 1), fun σ' H' q => ⟨_, by omega, rfl, hlt, q⟩, ?_⟩
    rintro x' H' ⟨e, c, hc, rfl⟩
    subst e
    exact hs i c σ _ (by simpa using hc) p
  · have e : i = x.cps.toList.length := by omega
    subst e
    exact .inl ⟨by simp [Its], hd σ H p⟩
theorem lc_str {x : Str} {g : TG} {tt : TT} {te : TE} {vs : List Nat} {σ : L2.St} {H1 : Hp} {D : Addr} {Qd : Hp → Prop} (Pv : Nat → Hp → Prop) (h0 : Pv 0 (upd H1 D (.lst [])))
    (hs : ∀ i c H, x.cps.toList[i]? = some c → Pv i H → g (.str (sgn c)) (wipe σ vs) H fun σ2 H2 => wipe σ2 vs = wipe σ vs ∧ tt σ2 H2 fun b H3 =>
      if b = true then te σ2 H3 fun y H4 => ∃ acc, H4 D = some (.lst acc) ∧ acc.length < sizeLine ∧ Pv (i + 1) (upd H4 D (.lst (acc ++ [y]))) else Pv (i + 1) H3) (hd : ∀ H, Pv x.cps.toList.length H → Qd H) :
    ∃ W : Nat → Nat → Hp → Prop, (∃ m, W 0 m (upd H1 D (.lst []))) ∧ ∀ i m H, W i m H →
      ((Its x).stop i H ∧ Qd H) ∨ ((Its x).go i H ∧ ∃ Nx : Hp → Prop, (∀ H', Nx H' → ∃ m', m' < m ∧ W (i + 1) m' H') ∧ ∀ x' H', (Its x).yld i H x' H' → g x' (wipe σ vs) H' fun σ2 H2 => wipe σ2 vs = wipe σ vs ∧ tt σ2 H2 fun b H3 =>
        if b = true then te σ2 H3 fun y H4 => ∃ acc, H4 D = some (.lst acc) ∧ acc.length < sizeLine ∧ Nx (upd H4 D (.lst (acc ++ [y]))) else Nx H3) := by
  refine ⟨fun i m H => m = x.cps.toList.length - i ∧ i ≤ x.cps.toList.length ∧ Pv i H, ⟨_, rfl, Nat.zero_le _, h0⟩, ?_⟩
  rintro i m H ⟨rfl, hi, p⟩
  by_cases hlt : i < x.cps.toList.length
  · refine .inr ⟨by simpa [Its] using hlt, Pv (i + 1), fun H' q => ⟨_, by omega, rfl, hlt, q⟩, ?_⟩
    rintro x' H' ⟨e, c, hc, rfl⟩
    subst e
    exact hs i c _ (by simpa using hc) p
  · have e : i = x.cps.toList.length := by omega
    subst e
    exact .inl ⟨by simp [Its], hd H p⟩
/-! ### enumerate(text) -/
def IteS (x : Str) : It :=
  ⟨fun i _ => i < x.cps.size, fun i H v H' => ∃ T c, v = .ref T ∧ H T = none ∧ H' = upd H T (.tup [.int (i : Nat), .str (sgn c)]) ∧ x.cps.toList[i]? = some c, fun i _ => x.cps.size = i⟩
theorem draws_str {prog : Program} {w : World} {A : Around} (hh : A.handled = none) (it : Addr) (x : Str) (t : Tok) : Draws prog w A it [it] x.cps.size (SignAt x) (fun i h => h.IsStrIter it (strIterType x) x t i) := by
  unfold strIterType
  split
  · exact Draws.strAscii hh it x t
  · exact Draws.strWide hh it x t
theorem turn_enumS {P : Program} {w : World} {K : PySem.W.Frag} {elts : List Expr} {kk : Nat} {tpos : Pos} (x : Str) (t : Tok) (e it : Addr) :
    Turn P w K (.Tuple elts kk tpos) (IteS x) [e, it] e (fun i h => (∃ old, IsEnum h e it ((i : Nat) : Int) old) ∧ h.IsStrIter it (strIterType x) x t i ∧ e ≠ it) where
  mem := by simp
  obj := fun i h st b hb => by
    obtain ⟨⟨old, he⟩, ⟨o, ho, hc, hd⟩, _⟩ := st
    rcases (by simpa using hb : b = e ∨ b = it) with z | z
    · rw [z]; exact ⟨_, he, fun v q => nomatch q⟩
    · rw [z]; exact ⟨o, ho, fun v q => by rw [hd] at q; cases q⟩
  keep := fun i h h' st k => by
    obtain ⟨⟨old, he⟩, ⟨o, ho, hc, hd⟩, hne⟩ := st
    exact ⟨⟨old, k e (by simp) _ he⟩, ⟨o, k it (by simp) _ ho, hc, hd⟩, hne⟩
  item := by
    intro X hP hw hK hc i pins s σ H E I hf st hg
    subst hP hw hK
    obtain ⟨⟨old, he⟩, hit, hne⟩ := st
    have hel : e < s.heap.objs.size := Heap.lt_size he
    have hil : it < s.heap.objs.size := by obtain ⟨_, q, _⟩ := hit; exact Heap.lt_size q
    refine wpAny_pyNext_enum_itemD (draws_str (by exact I.ok.hd hc) it x t) he hit hg hne (by simpa using hne) fun u h' tk hu ho hit' hT hsz hk => ?_
    obtain ⟨c, tu, hcx, rfl⟩ := hu
    refine ⟨_, rfl, wpAny_letOwnedTupleGo_enum (s := { s with heap := h', toks := tk + 1 }) ho fun h'' he' sb => ?_⟩
    have hT2 : h''.get? s.heap.objs.size = some { cls := .type "tuple", data := .seq #[.int i tk, .str (sgn c) tu] } := (sb.2 _ (Nat.ne_of_gt hel)).trans hT
    have new : ObjOk X.prog X.w (upd H s.heap.objs.size (.tup [.int (i : Nat), .str (sgn c)])) h'' s.heap.objs.size (.tup [.int (i : Nat), .str (sgn c)]) :=
      ⟨by show 2 ≤ sizeLine; decide, [.int i tk, .str (sgn c) tu], .cons ⟨_, rfl⟩ (.cons ⟨_, rfl⟩ .nil), ⟨_, hT2, rfl, _, rfl⟩⟩
    have I1 : Inv X pins σ (upd H s.heap.objs.size (.tup [.int (i : Nat), .str (sgn c)])) { s with heap := h'', toks := tk + 1 } :=
      I.turnedNew (ch := [e, it]) (fun b ob hb q => (sb.2 b (fun z => hb (by simp [z]))).trans (hk b ob (fun z => hb (by simp [z])) (fun z => hb (by simp [z])) q)) hf (Nat.le_refl _) new
    refine ⟨.ref s.heap.objs.size, _, I1, rfl, ⟨_, c, rfl, I.hok.fresh (Nat.le_refl _), rfl, by simpa using hcx⟩, ⟨⟨.str (sgn c) tu, ?_⟩, ?_, hne⟩, fun b hb => ?_⟩
    · have e1 : ((i + 1 : Nat) : Int) = (i : Int) + 1 := by omega
      rw [e1]; exact he'
    · obtain ⟨o, q1, q2, q3⟩ := hit'
      exact ⟨o, (sb.2 it (Ne.symm hne)).trans q1, q2, q3⟩
    · have hb' : b < s.heap.objs.size := by
        rcases (by simpa using hb : b = e ∨ b = it) with z | z
        · rw [z]; exact hel
        · rw [z]; exact hil
      rw [upd_ne (Nat.ne_of_lt hb')]
      exact (hf b hb).1
  done := by
    intro X hP hw hK hc i pins s σ H E I hf st hg
    subst hP hw hK
    obtain ⟨⟨old, he⟩, hit, hne⟩ := st
    obtain ⟨f0, f1, f2, f3, f4, f5⟩ := hf it (by simp)
    have hg' : x.cps.size = i := hg
    subst hg'
    exact wpAny_pyNext_enum_endD (draws_str (by exact I.ok.hd hc) it x t) he hit fun h' eb => ⟨rfl, I.turned (t' := s.toks) (fun b o hb q => eb b o hb q) f0 f1 f3 f4 f5⟩
  self := fun A i s Q E st h => let ⟨⟨_, he⟩, _⟩ := st; wpAny_pyIter_enum he h
def iEnumS (ta : TA) : TI := fun σ H R => ta σ H fun vs H1 => ∃ x, vs = [.str x] ∧ R (IteS x) H1
theorem pi_enumS {X : Cx} {e : Expr} {ta : TA} {p pos tpos : Pos} {elts : List Expr} {kk : Nat} (hg : Gl X "enumerate") (hm : X.mg "enumerate" = none) (ha : PA X [e] ta) (hs : starEach [e] X.env = [(false, eval e X.env)] := by rfl) :
    PI X (.Tuple elts kk tpos) (.Call (.Name "enumerate" p) [e] [] pos) (iEnumS ta) := by
  refine ⟨fun pins s σ H R I h => ?_⟩
  refine Call_ (ld_blt I hg hm boot_enumerate (PyProof.Rows.callWith_type1 (thn (ha.run pos pins s σ H _ I h) fun us s1 ⟨vs, H1, I1, r1, q1⟩ => ?_) hs rfl))
  obtain ⟨x, ex, q⟩ := q1
  subst ex
  obtain ⟨u, rfl, ru⟩ := Vals.one r1
  obtain ⟨t, rfl⟩ := ru
  refine call_enumerate_str fun h' he hit hsz hk => wpAny_pyIter_enum he ?_
  have I2 : Inv X pins σ H1 { s1 with heap := h' } := I1.kept (t' := s1.toks) hk
  refine ⟨s1.heap.objs.size + 1, [s1.heap.objs.size + 1, s1.heap.objs.size], _, _, H1, rfl, I2, turn_enumS x t (s1.heap.objs.size + 1) s1.heap.objs.size, ⟨⟨.none, he⟩, hit, Nat.succ_ne_self _⟩, fun b hb => ?_, q⟩
  have hle : s1.heap.objs.size ≤ b := by
    rcases (by simpa using hb : b = s1.heap.objs.size + 1 ∨ b = s1.heap.objs.size) with z | z
    · rw [z]; exact Nat.le_add_right _ _
    · rw [z]; exact Nat.le_refl _
  exact I1.fpOk hle (I1.hok.fresh hle)
theorem for_enumS {x : Str} {g : TG} {tb : TS} {D : Ends} {σ : L2.St} {H : Hp} (Pv : Nat → L2.St → Hp → Prop) (h0 : Pv 0 σ H)
    (hs : ∀ i c T σ H, x.cps.toList[i]? = some c → Pv i σ H → H T = none → g (.ref T) σ (upd H T (.tup [.int (i : Nat), .str (sgn c)])) fun σ2 H2 => tb { D with nx := Pv (i + 1), ct := Pv (i + 1), bk := D.nx } σ2 H2) (hd : ∀ σ H, Pv x.cps.toList.length σ H → D.nx σ H) :
    ∃ W : Nat → Nat → L2.St → Hp → Prop, (∃ m, W 0 m σ H) ∧ ∀ i m σ H, W i m σ H →
      ((IteS x).stop i H ∧ D.nx σ H) ∨ ((IteS x).go i H ∧ ∃ N : L2.St → Hp → Prop, (∀ σ' H', N σ' H' → ∃ m', m' < m ∧ W (i + 1) m' σ' H') ∧ ∀ x' H', (IteS x).yld i H x' H' → g x' σ H' fun σ2 H2 => tb { D with nx := N, ct := N, bk := D.nx } σ2 H2) := by
  refine ⟨fun i m σ H => m = x.cps.toList.length - i ∧ i ≤ x.cps.toList.length ∧ Pv i σ H, ⟨_, rfl, Nat.zero_le _, h0⟩, ?_⟩
  rintro i m σ H ⟨rfl, hi, p⟩
  by_cases hlt : i < x.cps.toList.length
  · refine .inr ⟨by simpa [IteS] using hlt, Pv (i + 1), fun σ' H' q => ⟨_, by omega, rfl, hlt, q⟩, ?_⟩
    rintro x' H' ⟨T, c, rfl, hT, rfl, hc⟩
    exact hs i c T σ H hc p hT
  · have e : i = x.cps.toList.length := by omega
    subst e
    exact .inl ⟨by simp [IteS], hd σ H p⟩
/-! ### promises that may lean on no guard being up (repr of lists asks it) -/
section
variable {CXc : CXT} {P : Program} {w : World} {K : PySem.W.Frag} {mg : Str → Option Value} {base : Heap} {k : Nat} {f : Addr} {fd : FuncData} {ps : List Str} {sp : Sp}
structure FnG (P : Program) (w : World) (K : PySem.W.Frag) (mg : Str → Option Value) (base : Heap) (CXc : CXT) (k : Nat) (f : Addr) (fd : FuncData) (ps : List Str) (sp : Sp) : Prop where
  len : ∀ vs H Q E, sp vs H Q E → vs.length = ps.length
  run : ∀ (A : Around) (outer : List Env) (s : Shared) (H : Hp) (args : Args) (us : List Value) (vs : List V) (Q : VK) (E : XK), A.guards = some [] → Room k A → Env0 P w K mg base A outer s H →
    BindsTo s fd args (ps.zip us) → Vals vs us → sp vs H Q E → codeAny (model P w) A (.call (.ref f) args) (CR CXc outer P w H s Q E) s
theorem FnG.of (F : FnOk P w K mg base CXc k f fd ps sp) : FnG P w K mg base CXc k f fd ps sp := ⟨F.len, fun A outer s H args us vs Q E _ => F.run A outer s H args us vs Q E⟩
theorem fn_ofG {name qual : Str} {params : Arguments} {body : List Stmt} {scope : Scope} {dV kV doc pm cdv ct oc : Value} {an od : Option Addr} {osl : Array (Option Value)} {N : List Str}
    (lk : K.lookup f = some ⟨oc, od, .func (PySem.W.fnOf name qual params body scope dV kV doc pm an cdv ct), osl⟩) (hcd : PySem.W.codeIn K cdv qual = true) (S : FnScope N ps scope)
    (len : ∀ vs H Q E, sp vs H Q E → vs.length = ps.length)
    (hbody : ∀ (A : Around) (outer : List Env) (s : Shared) (H : Hp) (vs : List V) (Q : VK) (E : XK), A.guards = some [] → Room k (A.deeper (envOfC qual scope s.heap.objs.size f cdv)) → sp vs H Q E →
      ∃ t, PSs (cxOf CXc P w K mg base N qual scope f cdv A outer s H E) body t ∧ t { nx := fun _ H' => Q .non H', rt := Q } (L2.start N vs) H) :
    FnG P w K mg base CXc (k + 1) f (PySem.W.fnOf name qual params body scope dV kV doc pm an cdv ct) ps sp := by
  constructor
  · exact len
  intro A outer s H args us vs Q E hga hr e0 hb r hsp
  have keepB : ∀ b o, base.get? b = some o → s.heap.get? b = some o := fun b o e => (e0.bs b o e).1
  have KX := e0.mod.kin.keeps keepB
  have lim := e0.mod.nolimit.keeps keepB
  have hk : ∀ y ∈ ps.zip us, scope.names.lookup y.1 = some .local ∨ (scope.names.lookup y.1 = some .cell ∧ ((cellsFrom (s.heap.objs.size + 1) scope.names []).lookup y.1).isSome = true) := by
    rintro ⟨n, v⟩ hy
    rcases S.par n (List.of_mem_zip hy).1 with q | q
    · left; exact q
    · right; exact ⟨q, PySem.W.cellsFrom_some _ _ _ (.inl q)⟩
  refine codeAny_call_function hr.depth (KX _ _ lk) rfl S.co S.gen rfl (PySem.W.codeRec_of KX hcd) (hb _ _ _ _ (wpAny_newFunctionEnv_cells S.kind hk fun env he s1 x => ?_))
  subst he
  refine ⟨lim.keeps x.toInCall.keep, codeAny_func ?_⟩
  obtain ⟨t, ht, hq⟩ := hbody A outer s H vs Q E hga (hr.deeper _) hsp
  have I := inv_start (CX := CXc) (P := P) (w := w) (E := E) S hr.hd e0 (len _ _ _ _ hsp) r x
  refine wpAny_mono (ht.run [] s1 (L2.start N vs) H _ I hq) (fun fl s' hs => ?_) (fun e s' hs => hs)
  match fl, hs with
  | .ret u, ⟨v, σ', H', J, rv, q⟩ => exact ⟨v, H', J.os, J.bare, J.base, J.hok, rv, q⟩
  | .next, ⟨σ', H', J, q⟩ => exact ⟨V.non, H', J.os, J.bare, J.base, J.hok, rfl, q⟩
  | .brk, ⟨_, _, _, q⟩ => exact False.elim q
  | .cont, ⟨_, _, _, q⟩ => exact False.elim q
theorem Fun.okG {x qual : Str} {st : Stmt} {N : List Str} (F : Fun K x qual st f fd) (S : FnScope N ps (defScope st)) (len : ∀ vs H Q E, sp vs H Q E → vs.length = ps.length)
    (hbody : ∀ (cdv : Value) (A : Around) (outer : List Env) (s : Shared) (H : Hp) (vs : List V) (Q : VK) (E : XK), (A.deeper (envOfC qual (defScope st) s.heap.objs.size f cdv)).guards = some [] → Room k (A.deeper (envOfC qual (defScope st) s.heap.objs.size f cdv)) → sp vs H Q E →
      ∃ t, PSs (cxOf CX0 P w K mg base N qual (defScope st) f cdv A outer s H E).nox (defBody st) t ∧ t { nx := fun _ H' => Q .non H', rt := Q } (L2.start N vs) H) : FnG P w K mg base CX0 (k + 1) f fd ps sp := by
  obtain ⟨oc, od, kV, doc, pm, an, cdv, ct, osl, rfl, lk, hcd⟩ := F.ex
  refine fn_ofG lk hcd S len fun A outer s H vs Q E hga hr hsp => ?_
  obtain ⟨t, h, q⟩ := hbody cdv A outer s H vs Q E hga hr hsp
  exact ⟨t, h.nox, q⟩
end
section
variable {X : Cx} {CXc : CXT} {k : Nat} {f : Addr} {fd : FuncData} {ps : List Str} {sp : Sp} {E : XK} {x : Str} {p pos : Pos} {e : Expr} {es : List Expr} {t : TA}
theorem run_fnG {pins : List (Addr × Obj)} {σ : L2.St} {H : Hp} {s : Shared} {Q : VK} {us : List Value} {vs : List V} (F : FnG X.prog X.w X.K X.mg X.base CXc k f fd ps sp) (hga : X.A.guards = some []) (hr : Room k X.A) (hb : Binds X.K fd ps []) (hx : Passes CXc X E)
    (I : Inv X pins σ H s) (r : Vals vs us) (h : sp vs H Q E) : wpAny (model X.prog X.w) X.A (call (.ref f) us) (EP X pins σ Q) X.xe s := by
  have hl : (us ++ []).length = ps.length := by
    rw [List.append_nil, ← r.length]
    exact F.len _ _ _ _ h
  have hb' := hb s us I.kIn hl
  rw [List.append_nil] at hb'
  refine wpAny_call (codeAny_mono (F.run X.A X.stack s H ⟨us, []⟩ us vs Q E hga hr I.env0 hb' r h) fun r s' hq => ?_)
  match r, hq with
  | .error e, hq => exact hx pins σ H s e s' I hq
  | .ok (.ret u), hq => exact I.after hq
theorem pe_callG (F : FnG X.prog X.w X.K X.mg X.base CXc k f fd ps sp) (hga : X.A.guards = some []) (hr : Room k X.A) (hg : Gl X x) (hm : X.mg x = some (.ref f)) (hk : PySem.W.keepIn X.K (.ref f) = true) (hb : Binds X.K fd ps []) (hx : Passes CXc X E)
    (ha : PA X (e :: es) t) (hdb : (x == ("__debug__" : Str)) = false := by decide) (he : starEach (e :: es) X.env = (false, eval e X.env) :: starEach es X.env := by rfl) (hpl : (backTo pos (starEach es X.env)).any (·.1) = false := by rfl) :
    PE X (.Call (.Name x p) (e :: es) [] pos) (tCall sp [] E t) := by
  constructor
  intro pins s σ H Q I h
  refine wpAny_Call_Name_kw (ld_glob I hg hm (PySem.W.callWith_K (h₀ := X.base) I.ok.mod.kin hk (thn (ha.run pos pins s σ H _ I h) ?_) he hpl) hdb)
  rintro us s1 ⟨vs, H1, I1, r, q⟩
  rw [List.append_nil] at q
  exact ⟨I1.kIn, run_fnG F hga hr hb hx I1 r q⟩
end
/-! ### rules by a written K (within a comprehension's block the reading must not name the block) -/
section
variable {X : Cx} {K : PySem.W.Frag}
theorem op_inK (hK : X.K = K := by rfl) : OpR X (compareOp .In) (rIn K false) := hK ▸ op_in_seq
theorem op_notInK (hK : X.K = K := by rfl) : OpR X (compareOp .NotIn) (rIn K true) := hK ▸ op_notIn_seq
theorem ix_listK (hK : X.K = K := by rfl) : IxR X (rIxL K) := hK ▸ ix_list
theorem ix_tupK (hK : X.K = K := by rfl) : IxR X (rIxT K) := hK ▸ ix_tup
theorem ix_seqK (hK : X.K = K := by rfl) : IxR X (rIx K) := hK ▸ ix_seq
theorem sl_listK (hK : X.K = K := by rfl) : SlR X (rSlL K) := hK ▸ sl_list
theorem sl_tupK (hK : X.K = K := by rfl) : SlR X (rSlA K) := hK ▸ sl_tupA
theorem len_seqK (hK : X.K = K := by rfl) : CallR X (.builtin "len") (rLenS K) := hK ▸ call_len_seq
theorem list_ofK (hK : X.K = K := by rfl) : CallR X (.type "list") (rListS K) := hK ▸ call_list_of
def rTupOf (K : PySem.W.Frag) : List V → Hp → VK → Prop := fun xs H Q => ∃ p ys, xs = [.ref p] ∧ ((SqL K H p ys ∧ ∀ l, H l = none → Q (.ref l) (upd H l (.tup ys))) ∨ (SqT K H p ys ∧ Q (.ref p) H))
theorem tuple_ofK (hK : X.K = K := by rfl) : CallR X (.type "tuple") (rTupOf K) := hK ▸ call_tuple_of
theorem allK (hc : X.calm = true) (hK : X.K = K := by rfl) : CallR X (.builtin "all") (rAll K) := hK ▸ cr_all hc
theorem anyK (hc : X.calm = true) (hK : X.K = K := by rfl) : CallR X (.builtin "any") (rAny K) := hK ▸ cr_any hc
theorem isiK (hK : X.K = K := by rfl) : CallR X (.builtin "isinstance") (rIsi K) := hK ▸ call_isi
theorem sortedSK (hK : X.K = K := by rfl) : CallR X (.builtin "sorted") (rSortedS K) := hK ▸ cr_sortedS
theorem eqDK (hu : X.A.units + 64 < cLine) (hK : X.K = K := by rfl) : OpR X (compareOp .Eq) (rEqD K) := hK ▸ op_eqD hu
theorem neDK (hu : X.A.units + 64 < cLine) (hK : X.K = K := by rfl) : OpR X (compareOp .NotEq) (rNeD K) := hK ▸ op_neD hu
def rJoin (K : PySem.W.Frag) : V → List V → Hp → VK → Prop := fun x xs H Q => ∃ a p, ∃ ys : List Str, x = .str a ∧ xs = [.ref p] ∧ (SqL K H p (ys.map V.str) ∨ SqT K H p (ys.map V.str)) ∧
  (ys.map (·.length)).sum + ys.length * a.length ≤ 16777216 ∧ Q (.str (Txt.join a ys)) H
theorem joinK (hK : X.K = K := by rfl) : MtR X "str.join" (rJoin K) := hK ▸ mt_join
theorem pi_listK {tg l : Expr} {t : TE} (h : PE X l t) (hK : X.K = K := by rfl) : PI X tg l (iList K t) := hK ▸ pi_list h
theorem pi_tupK {tg l : Expr} {t : TE} (h : PE X l t) (hK : X.K = K := by rfl) : PI X tg l (iTup K t) := hK ▸ pi_tup h
/-- what a call's written arguments must be for a method's quick road -/
abbrev Few (X : Cx) (e : Expr) (es : List Expr) (cpos : Pos) : Prop :=
  ((backTo cpos (starEach (e :: es) X.env)).all (fun x => !x.1) && (backToKw cpos (keywordEach [] X.env)).all (fun x => x.1.isSome) &&
    decide ((e :: es).length + ([] : List Keyword).length + (if ([] : List Keyword).isEmpty then 0 else 1) < 30)) = true
theorem pe_bmK {o e : Expr} {es : List Expr} {to : TE} {t : TA} {name : Str} {apos cpos : Pos} {T id : String} {r : V → List V → Hp → VK → Prop} (pa : PlainAttrs T) (slot : Slot T name id)
    (hty : typeOf (.builtin id) = pure (.type "method_descriptor")) (hm : MtR X id r) (ho : PE X o to) (ha : PA X (e :: es) t) (h1 : attributeBase o name X.env (eval o X.env) = eval o X.env := by rfl) (h2 : Few X e es cpos := by rfl)
    (h3 : (apos.endLine == cpos.line) = true := by rfl) (h4 : starEach (e :: es) X.env = (false, eval e X.env) :: starEach es X.env := by rfl) (h5 : (backTo cpos (starEach es X.env)).any (·.1) = false := by rfl) (hK : X.K = K := by rfl) :
    PE X (.Call (.Attribute o name apos) (e :: es) [] cpos) (tBM K T r to t) := by
  subst hK
  exact pe_bm pa slot hty hm ho ha h1 h2 h3 h4 h5
theorem pe_bm0K {o : Expr} {to : TE} {name : Str} {apos cpos : Pos} {T id : String} {r : V → List V → Hp → VK → Prop} (pa : PlainAttrs T) (slot : Slot T name id)
    (hty : typeOf (.builtin id) = pure (.type "method_descriptor")) (hm : MtR X id r) (ho : PE X o to) (h1 : attributeBase o name X.env (eval o X.env) = eval o X.env := by rfl)
    (h3 : (apos.endLine == cpos.line) = true := by rfl) (hK : X.K = K := by rfl) : PE X (.Call (.Attribute o name apos) [] [] cpos) (tBM0 K T r to) := by
  subst hK
  exact pe_bm0 pa slot hty hm ho h1 h3
end
/-! ### walks told by the list of their items -/
/-- while I holds J gives the items xs, one after the other -/
structure Feeds (I : Hp → Prop) (J : It) (xs : List V) : Prop where
  go : ∀ i H, I H → i < xs.length → J.go i H
  yld : ∀ i H x H', I H → i < xs.length → J.yld i H x H' → H' = H ∧ xs[i]? = some x
  stop : ∀ i H, I H → i = xs.length → J.stop i H
theorem feeds_str (x : Str) : Feeds (fun _ => True) (Its x) (x.cps.toList.map fun c => V.str (sgn c)) where
  go := fun i H _ h => by simpa [Its] using h
  yld := fun i H v H' _ _ h => by
    obtain ⟨e, c, hc, rfl⟩ := h
    have hc' : x.cps.toList[i]? = some c := by simpa using hc
    exact ⟨e, by rw [List.getElem?_map, hc']; rfl⟩
  stop := fun i H _ h => by rw [h]; simp [Its]
theorem feeds_range (lo : Int) (n : Nat) : Feeds (fun _ => True) (Itr lo n) ((List.range n).map fun i => V.int (lo + (i : Nat))) where
  go := fun i H _ h => by simpa [Itr] using h
  yld := fun i H v H' _ hi h => by
    obtain ⟨e, rfl⟩ := h
    rw [List.length_map, List.length_range] at hi
    exact ⟨e, by rw [List.getElem?_map, List.getElem?_range hi]; rfl⟩
  stop := fun i H _ h => by rw [h]; simp [Itr]
theorem feeds_list (K : PySem.W.Frag) (a : Addr) (xs : List V) : Feeds (fun H => SqL K H a xs) (Itl K a) xs where
  go := fun i H h hi => ⟨xs, xs[i], h, List.getElem?_eq_getElem hi⟩
  yld := fun i H v H' h hi z => ⟨z.1, z.2 xs h⟩
  stop := fun i H h hi => ⟨xs, h, Nat.le_of_eq hi.symm⟩
theorem feeds_tup (K : PySem.W.Frag) (a : Addr) (xs : List V) : Feeds (fun H => SqT K H a xs) (Itt K a) xs where
  go := fun i H h hi => ⟨xs, xs[i], h, List.getElem?_eq_getElem hi⟩
  yld := fun i H v H' h hi z => ⟨z.1, z.2 xs h⟩
  stop := fun i H h hi => ⟨xs, h, Nat.le_of_eq hi.symm⟩
/-- a for over such a walk -/
theorem for_of {I : Hp → Prop} {J : It} {xs : List V} {g : TG} {tb : TS} {D : Ends} {σ : L2.St} {H : Hp} (F : Feeds I J xs) (Pv : Nat → L2.St → Hp → Prop) (h0 : Pv 0 σ H) (hI : ∀ i σ H, Pv i σ H → I H)
    (hs : ∀ i x σ H, xs[i]? = some x → Pv i σ H → g x σ H fun σ2 H2 => tb { D with nx := Pv (i + 1), ct := Pv (i + 1), bk := D.nx } σ2 H2) (hd : ∀ σ H, Pv xs.length σ H → D.nx σ H) :
    ∃ W : Nat → Nat → L2.St → Hp → Prop, (∃ m, W 0 m σ H) ∧ ∀ i m σ H, W i m σ H →
      (J.stop i H ∧ D.nx σ H) ∨ (J.go i H ∧ ∃ N : L2.St → Hp → Prop, (∀ σ' H', N σ' H' → ∃ m', m' < m ∧ W (i + 1) m' σ' H') ∧ ∀ x' H', J.yld i H x' H' → g x' σ H' fun σ2 H2 => tb { D with nx := N, ct := N, bk := D.nx } σ2 H2) := by
  refine ⟨fun i m σ H => m = xs.length - i ∧ i ≤ xs.length ∧ Pv i σ H, ⟨_, rfl, Nat.zero_le _, h0⟩, ?_⟩
  rintro i m σ H ⟨rfl, hi, p⟩
  by_cases hlt : i < xs.length
  · refine .inr ⟨F.go i H (hI _ _ _ p) hlt, Pv (i + 1), fun σ' H' q => ⟨_, by omega, rfl, hlt, q⟩, fun x' H' hy => ?_⟩
    obtain ⟨e, hx⟩ := F.yld i H x' H' (hI _ _ _ p) hlt hy
    subst e
    exact hs i x' σ _ hx p
  · have e : i = xs.length := by omega
    subst e
    exact .inl ⟨F.stop _ H (hI _ _ _ p) rfl, hd σ H p⟩
/-- a comprehension without a test over such a walk, by an invariant -/
theorem lc_of {I : Hp → Prop} {J : It} {xs : List V} {g : TG} {tt : TT} {te : TE} {vs : List Nat} {σ : L2.St} {H1 : Hp} {D : Addr} {Qd : Hp → Prop} (F : Feeds I J xs) (Pv : Nat → Hp → Prop) (h0 : Pv 0 (upd H1 D (.lst []))) (hI : ∀ i H, Pv i H → I H)
    (hs : ∀ i x H, xs[i]? = some x → Pv i H → g x (wipe σ vs) H fun σ2 H2 => wipe σ2 vs = wipe σ vs ∧ tt σ2 H2 fun b H3 =>
      if b = true then te σ2 H3 fun y H4 => ∃ acc, H4 D = some (.lst acc) ∧ acc.length < sizeLine ∧ Pv (i + 1) (upd H4 D (.lst (acc ++ [y]))) else Pv (i + 1) H3) (hd : ∀ H, Pv xs.length H → Qd H) :
    ∃ W : Nat → Nat → Hp → Prop, (∃ m, W 0 m (upd H1 D (.lst []))) ∧ ∀ i m H, W i m H →
      (J.stop i H ∧ Qd H) ∨ (J.go i H ∧ ∃ Nx : Hp → Prop, (∀ H', Nx H' → ∃ m', m' < m ∧ W (i + 1) m' H') ∧ ∀ x' H', J.yld i H x' H' → g x' (wipe σ vs) H' fun σ2 H2 => wipe σ2 vs = wipe σ vs ∧ tt σ2 H2 fun b H3 =>
        if b = true then te σ2 H3 fun y H4 => ∃ acc, H4 D = some (.lst acc) ∧ acc.length < sizeLine ∧ Nx (upd H4 D (.lst (acc ++ [y]))) else Nx H3) := by
  refine ⟨fun i m H => m = xs.length - i ∧ i ≤ xs.length ∧ Pv i H, ⟨_, rfl, Nat.zero_le _, h0⟩, ?_⟩
  rintro i m H ⟨rfl, hi, p⟩
  by_cases hlt : i < xs.length
  · refine .inr ⟨F.go i H (hI _ _ p) hlt, Pv (i + 1), fun H' q => ⟨_, by omega, rfl, hlt, q⟩, fun x' H' hy => ?_⟩
    obtain ⟨e, hx⟩ := F.yld i H x' H' (hI _ _ p) hlt hy
    subst e
    exact hs i x' _ hx p
  · have e : i = xs.length := by omega
    subst e
    exact .inl ⟨F.stop _ H (hI _ _ p) rfl, hd H p⟩
theorem lt_get {α : Type} {l : List α} {i : Nat} {x : α} (h : l[i]? = some x) : i < l.length := (List.getElem?_eq_some_iff.mp h).1
theorem mem_get {α : Type} {l : List α} {i : Nat} {x : α} (h : l[i]? = some x) : x ∈ l := List.mem_of_getElem? h
theorem take_map {α β : Type} {l : List α} {i : Nat} {x : α} (F : α → β) (h : l[i]? = some x) : (l.take (i + 1)).map F = (l.take i).map F ++ [F x] := by
  rw [List.take_succ, h]
  simp
theorem sizeL {n : Nat} (h : n ≤ 1000000) : n ≤ sizeLine := by rw [sizeLine_eq]; omega
/-- .. by the values of its elements (which leave all that is tracked) -/
theorem lc_map {I : Hp → Prop} {J : It} {xs : List V} {te : TE} {i : Nat} {σ : L2.St} {H1 : Hp} {D : Addr} {Qd : Hp → Prop} (F : Feeds I J xs) (f : V → V) (hD : H1 D = none) (hI : ∀ H, Ex H1 H → I H) (hz : xs.length ≤ 1000000)
    (hte : ∀ x ∈ xs, ∀ (H2 : Hp) (Q2 : VK), Ex H1 H2 → (∀ H3, Ex H2 H3 → Q2 (f x) H3) → te ((σ.set i none).set i (some x)) H2 Q2)
    (hq : ∀ H', Ex H1 H' → H' D = some (.lst (xs.map f)) → Qd H') :
    ∃ W : Nat → Nat → Hp → Prop, (∃ m, W 0 m (upd H1 D (.lst []))) ∧ ∀ j m H, W j m H →
      (J.stop j H ∧ Qd H) ∨ (J.go j H ∧ ∃ Nx : Hp → Prop, (∀ H', Nx H' → ∃ m', m' < m ∧ W (j + 1) m' H') ∧ ∀ x' H', J.yld j H x' H' → gName i x' (wipe σ [i]) H' fun σ2 H2 => wipe σ2 [i] = wipe σ [i] ∧ tYes σ2 H2 fun b H3 =>
        if b = true then te σ2 H3 fun y H4 => ∃ acc, H4 D = some (.lst acc) ∧ acc.length < sizeLine ∧ Nx (upd H4 D (.lst (acc ++ [y]))) else Nx H3) := by
  refine lc_of F (fun j H => Ex H1 H ∧ H D = some (.lst ((xs.take j).map f))) ⟨Ex.new hD, upd_same⟩ (fun _ H h => hI H h.1) ?_ (fun H h => hq H h.1 (by rw [h.2, List.take_length]))
  rintro j x H hx ⟨e1, e2⟩
  refine ⟨by simp [wipe], ?_⟩
  refine hte x (mem_get hx) H _ e1 fun H3 e3 => ⟨_, e3 _ _ e2, ?_, ?_, ?_⟩
  · have := lt_get hx
    have := sizeL hz
    rw [List.length_map, List.length_take]
    omega
  · exact Ex.mut (e1.trans e3) hD
  · rw [upd_same, take_map _ hx]
section
variable {X : Cx} {K : PySem.W.Frag}
def rReprD (K : PySem.W.Frag) : List V → Hp → VK → Prop := fun xs H Q => ∃ (a : Addr) (d : PyData), xs = [.ref a] ∧ Dp K H (.ref a) d ∧ d.showable = true ∧ d.hasDict = false ∧ d.depth ≤ 60 ∧ d.shown.length ≤ sizeLine ∧ Q (.str d.shown) H
theorem reprDK (hu : X.A.units + 64 < cLine) (hg : X.A.guards = some []) (hK : X.K = K := by rfl) : CallR X (.builtin "repr") (rReprD K) := hK ▸ call_reprD hu hg
end
/-- a def that is never called keeps a promise that asks what cannot be -/
theorem fn_never {P : Program} {w : World} {K : PySem.W.Frag} {mg : Str → Option Value} {base : Heap} {CXc : CXT} {k : Nat} {f : Addr} {fd : FuncData} {ps : List Str} : FnOk P w K mg base CXc k f fd ps (fun _ _ _ _ => False) :=
  ⟨fun _ _ _ _ h => h.elim, fun _ _ _ _ _ _ _ _ _ _ _ _ _ h => h.elim⟩
end Lk
/-! ### the end of a law row over FnG -/
namespace Lk
open PySem PySem.Spec PyProof.Rows L2
/-- what is asked of the abstract heap at the law's entry: a alone may be tracked, as the script -/
structure Entry (K : PySem.W.Frag) (P : Program) (w : World) (H : Hp) (h : Heap) (a : Addr) (ns : List Int) : Prop where
  only : Only H
  seq : SqL K H a (ns.map V.int)
  ok : HOk P w H h
  just : ∀ b u, H b = some u → b = a
  kout : ∀ u, H a = some u → K.lookup a = none
theorem entry_of {K : PySem.W.Frag} {P : Program} {w : World} {h : Heap} {a : Addr} {vs : List Value} {ns : List Int} (KX : K.In h) (ha : h.get? a = some { cls := .type "list", data := .seq vs.toArray }) (hi : IntsAre vs ns) (hl : ns.length ≤ sizeLine) :
    ∃ H, Entry K P w H h a ns := by
  have rv := vals_ints hi
  cases hk : K.lookup a with
  | some o =>
    have e : some o = some _ := (KX a o hk).symm.trans ha
    cases e
    refine ⟨fun _ => none, fun _ => .inl rfl, .inr ⟨_, vs.toArray, _, hk, rfl, rfl, rfl, ?_, by simpa using rv⟩, (fun b u z => by cases z), (fun b u z => by cases z), (fun u z => by cases z)⟩
    rw [List.size_toArray, hi.length]; exact hl
  | none =>
    refine ⟨upd (fun _ => none) a (.frz { cls := .type "list", data := .seq vs.toArray } (.lst (ns.map V.int))), fun b => ?_, .inl (.inr ⟨_, upd_same⟩), fun b u z => ?_, fun b u z => ?_, fun _ _ => hk⟩
    · by_cases hb : b = a
      · right; rw [hb]; exact ⟨_, _, upd_same⟩
      · left; rw [upd_ne hb]
    · by_cases hb : b = a
      · subst hb
        rw [upd_same] at z
        cases z
        exact ⟨ha, by rw [List.length_map]; exact hl, vs, _, rv, ha⟩
      · rw [upd_ne hb] at z; cases z
    · by_cases hb : b = a
      · exact hb
      · rw [upd_ne hb] at z; cases z
theorem law_callG {P : Program} {w : World} {K : PySem.W.Frag} {mg mb : Str → Option Value} {k : Nat} {fa a : Addr} {fd : FuncData} {x : Str} {sp : Sp} {s₁ : Shared} {vs : List Value} {ns : List Int}
    (KX : K.In s₁.heap) (hns : s₁.heap.Ns mainGlobals mg) (hb : s₁.heap.Ns builtinsNs mb) (hbb : ∀ x : Str, x ≠ "__name__" → mb x = bootBuiltins x) (hlim : s₁.heap.NoLimit) (hg : s₁.gens = #[])
    (ha : s₁.heap.get? a = some { cls := .type "list", data := .seq vs.toArray }) (hi : IntsAre vs ns) (hl : ns.length ≤ sizeLine) (hr : Room k callerA)
    (F : ∀ base : Heap, K.In base → base.Ns mainGlobals mg → FnG P w K mg base CX0 k fa fd [x] sp) (hbind : ∀ (s : Shared) (u : Value), BindsTo s fd ⟨[u], []⟩ [(x, u)])
    (hsp : ∀ H : Hp, Only H → SqL K H a (ns.map V.int) → sp [.ref a] H (fun v _ => v = .bl true) fun _ _ _ => False) :
    codeAny (model P w) callerA (.call (.ref fa) ⟨[.ref a], []⟩) (fun r s' => r = .ok (.ret (.bool true)) ∧ OldK s₁.heap s'.heap ∧ s'.os = s₁.os ∧ AllBare s'.gens) s₁ := by
  obtain ⟨H, En⟩ := entry_of (P := P) (w := w) KX ha hi hl
  have noD : ∀ {b : Addr} {o : Obj} {es : Array DictEntry} {ep : Nat}, s₁.heap.get? b = some o → o.data = .dict es ep → H b = none := by
    intro b o es ep e d
    cases q : H b with
    | none => rfl
    | some u =>
      rw [En.just b u q, ha] at e
      cases e
      cases (show Data.seq vs.toArray _ = Data.dict es ep from d)
  have nsB : ∀ {b : Addr} {m : Str → Option Value}, s₁.heap.Ns b m → (hidT s₁.heap H).Ns b m := by
    rintro b m ⟨o, es, ep, e, d, r⟩
    exact ⟨o, es, ep, hidT_get e (noD e d), d, r⟩
  have kB : K.In (hidT s₁.heap H) := by
    intro b o e
    refine hidT_get (KX b o e) ?_
    cases q : H b with
    | none => rfl
    | some u =>
      have e1 := En.just b u q
      subst e1
      rw [En.kout u q] at e; cases e
  have hM : Mod K mg (hidT s₁.heap H) := by
    obtain ⟨mc, h1, h2⟩ := hlim
    exact ⟨kB, nsB hns, ⟨mb, nsB hb, hbb⟩, ⟨mc, nsB h1, h2⟩⟩
  have e0 : Env0 P w K mg (hidT s₁.heap H) callerA [] s₁ H :=
    ⟨rfl, hM, fun b o e => of_hidT e, Nat.le_of_eq (hidT_size _ _), trivial, fun b hb => (nomatch (show b ∈ ([] : List Addr) from hb)), En.ok, .of_eq hg⟩
  have run := (F _ kB (nsB hns)).run callerA [] s₁ H ⟨[.ref a], []⟩ [.ref a] [.ref a] _ _ rfl hr e0 (hbind s₁ (.ref a)) (.cons rfl .nil) (hsp H En.only En.seq)
  refine codeAny_mono run ?_
  intro r s' h
  match r, h with
  | .error e, h => exact h.elim
  | .ok (.ret u), ⟨v, H', os, bare, un, hok', r', q⟩ =>
    obtain rfl : v = .bl true := q
    obtain rfl : u = Value.bool true := r'
    refine ⟨rfl, OldK.of_keep fun b o e => ?_, os, bare⟩
    cases z : H b with
    | none => exact un.keep b o e z (by intro y; exact nomatch (show b ∈ ([] : List Addr) from y)) (by simp)
    | some u =>
      rcases En.only b with y | ⟨ob, xs, y⟩
      · rw [z] at y; cases y
      · have p1 := (En.ok b _ y).1
        have p2 := (hok' b _ (un.frzs b ob _ y)).1
        rw [p1] at e
        cases e
        exact p2
theorem walk_ofG {l : PySem.W.OpenLaw} {n k : Nat} {q : Program} {loose : List Str} {XP : (Str → Option Value) → Heap → Prop} {YP : World → Heap → Prop} {d : DefRec} {K : Params → PySem.W.Frag} {sp : World → Sp} {x : Str}
    (hn : l.most = some n) (hn2 : n ≤ sizeLine) (hdf : d.params.defaults = []) (hr : Room k callerA) (hY : ∀ (w : World) (h : Heap), YP w h → (K w.params).In h)
    (F : ∀ (w : World) (mg : Str → Option Value) (fa : Addr) (h : Heap), (K w.params).In h → h.Ns mainGlobals mg → mg d.name = some (.ref fa) →
      ∃ fd : FuncData, (∀ (s : Shared) (u : Value), BindsTo s fd ⟨[u], []⟩ [(x, u)]) ∧ ∀ base : Heap, (K w.params).In base → base.Ns mainGlobals mg → FnG l.prog w (K w.params) mg base CX0 k fa fd [x] (sp w))
    (hsp : ∀ (w : World) (H : Hp) (a : Addr) (ns : List Int), ns.length ≤ n → Only H → SqL (K w.params) H a (ns.map V.int) → sp w [.ref a] H (fun v _ => v = .bl true) fun _ _ _ => False) :
    PySem.W.WalkO q loose XP YP l.row.toRowW d [] (fun f vs => PySem.call f vs) := by
  refine Att.attach_call hn hdf ?_
  intro w s₀ s₁ mg mb fa o pm cd doc a vs ns G Y ho hd hcd hmg hobj hints hlen hg
  obtain ⟨fd, hb, hF⟩ := F w mg fa _ (hY w _ Y) G.T.g hmg
  exact law_callG (hY w _ Y) G.T.g G.T.b G.T.builtins G.T.nolimit hg hobj hints (Nat.le_trans hlen hn2) hr hF hb fun H hO hS => hsp w H a ns hlen hO hS
end Lk
/-! ### lambdas that are handed to a def of the law -/
namespace Lk
open PySem PySem.Spec PyProof.Rows L2 LamX
section
variable {P : Program} {w : World} {K : PySem.W.Frag} {mg : Str → Option Value} {base : Heap} {k : Nat} {f : Addr} {fd : FuncData} {ps : List Str} {sp : Sp}
/-- a def whose code object is known by its place -/
theorem Fun.okGC {c : Addr} {x qual : Str} {st : Stmt} {N : List Str} (F : Fun K x qual st f fd) (hc : fd.code = .ref c) (S : FnScope N ps (defScope st)) (len : ∀ vs H Q E, sp vs H Q E → vs.length = ps.length)
    (hbody : ∀ (A : Around) (outer : List Env) (s : Shared) (H : Hp) (vs : List V) (Q : VK) (E : XK), (A.deeper (envOfC qual (defScope st) s.heap.objs.size f (.ref c))).guards = some [] → Room k (A.deeper (envOfC qual (defScope st) s.heap.objs.size f (.ref c))) → sp vs H Q E →
      ∃ t, PSs (cxOf CX0 P w K mg base N qual (defScope st) f (.ref c) A outer s H E).nox (defBody st) t ∧ t { nx := fun _ H' => Q .non H', rt := Q } (L2.start N vs) H) : FnG P w K mg base CX0 (k + 1) f fd ps sp := by
  obtain ⟨oc, od, kV, doc, pm, an, cdv, ct, osl, rfl, lk, hcd⟩ := F.ex
  obtain rfl : cdv = .ref c := hc
  refine fn_ofG lk hcd S len fun A outer s H vs Q E hga hr hsp => ?_
  obtain ⟨t, h, q⟩ := hbody A outer s H vs Q E hga hr hsp
  exact ⟨t, h.nox, q⟩
end
section
variable {X : Cx}
/-- x(lambda: body), x a def of the text -/
theorem pe_lamF {T : List (Addr × Str)} {TT : (XK → Hp → VK → Prop) → Hp → VK → Prop} {x a q0 : Str} {st : Stmt} {g c P : Addr} {fd : FuncData} {k : Nat} {Ng : List Str} {params : Arguments} {body : Expr} {scope : Scope} {t : XK → TE} {p lpos pos : Pos}
    (F : Fun X.K x x st g fd) (hg : Gl X x) (hm : X.mg x = some (.ref g)) (hb : L2.Binds X.K fd [a] []) (Sg : FnScope Ng [a] (defScope st)) (hNg : Ng[0]? = some a) (hva : Vis (defScope st) a)
    (hq : X.env.qual = q0) (hG : ∀ cdv, GivesTo X Ng x (defScope st) g cdv (defBody st) a (q0 ++ "<lambda>") TT)
    (TB : TabB X.base X.mg c P) (hcode : X.env.code = .ref c) (hmT : (P, q0 ++ "<lambda>") ∈ T) (hu : ∀ p ∈ T, p.1 = P → p.2 = q0 ++ "<lambda>") (hr : Room (k + 2) X.A) (L : LamS X.env.scope scope) (hdef : defaultsOf params X.env = ([], []))
    (hbind : ∀ (q : Str) (cl : List (Str × Addr)) (pm cv ctv : Value), bindArgs (PySem.W.kla_fn "<lambda>" q params body scope cl pm cv ctv) ⟨[], []⟩ = pure [])
    (hbody : ∀ (A : Around) (outer : List Env) (s : Shared) (H : Hp) (E : XK) (f c' : Addr), Room k (A.deeper (lamEnv X scope s.heap.objs.size f c')) → PE (lamCx X A outer s H E scope f c') body (t E))
    (hdb : (x == ("__debug__" : Str)) = false := by decide) (hd : (a == ("__debug__" : Str)) = false := by decide) (hcd : (a == ("__classdict__" : Str)) = false := by decide) :
    PE X (.Call (.Name x p) [.Lambda params body scope lpos] [] pos) (tLam T TT t) := by
  obtain ⟨oc, od, kV, doc, pm, an, cdv, ct, osl, rfl, lk, hcg⟩ := F.ex
  subst hq
  exact pe_lamcall hg hm F.kp lk hcg hb Sg hNg hva (hG cdv) TB hcode hmT hu hr L hdef hbind hbody hdb hd hcd
/-- what a raising def lets out passes the lambda -/
theorem passLam {A : Around} {outer : List Env} {s : Shared} {H : Hp} {E : XK} {scope : Scope} {f c' : Addr} : Passes (L2.CX X.prog X.w) (lamCx X A outer s H E scope f c') E :=
  passes_call (takes_of rfl rfl rfl rfl) fun _ _ _ _ h => h
/-- try: a() / except e1: return r1 / except e2: return r2 / return r3 -/
def TWord (K : PySem.W.Frag) (C1 C2 : Addr) (r1 r2 r3 : Str) : (XK → Hp → VK → Prop) → Hp → VK → Prop := fun tl H Q =>
  tl (fun cls _ H' => ∃ b, PySem.W.exmOne K cls (.ref C1) = some b ∧ (b = true → Q (.str r1) H') ∧ (b = false → ∃ b2, PySem.W.exmOne K cls (.ref C2) = some b2 ∧ (b2 = true → Q (.str r2) H') ∧ (b2 = false → False))) H fun _ H' => Q (.str r3) H'
theorem word_gives {Ng : List Str} {x a e1 e2 q r1 r2 r3 : Str} {sg : Scope} {g C1 C2 : Addr} {cdg : Value} {j1 j2 j3 : Nat} {p1 p2 p3 p4 p5 p6 p7 p8 p9 p10 p11 p12 p13 p14 : Pos}
    (hg1 : sg.names.lookup e1 = some .globalImplicit) (hm1 : X.mg e1 = some (.ref C1)) (hg2 : sg.names.lookup e2 = some .globalImplicit) (hm2 : X.mg e2 = some (.ref C2)) (hd1 : (e1 == ("__debug__" : Str)) = false := by decide) (hd2 : (e2 == ("__debug__" : Str)) = false := by decide)
    (h0 : ∀ f : Addr, (L2.start Ng [V.ref f])[0]? = some (some (V.ref f))) :
    GivesTo X Ng x sg g cdg [.Try [.Expr (.Call (.Name a p1) [] [] p2) p3] [.ExceptHandler (some (.Name e1 p4)) none [.Return (some (.Constant (.str r1) j1 p5)) p6] p7, .ExceptHandler (some (.Name e2 p8)) none [.Return (some (.Constant (.str r2) j2 p9)) p10] p11] [] [] p12, .Return (some (.Constant (.str r3) j3 p13)) p14]
      a q (TWord X.K C1 C2 r1 r2 r3) := by
  intro f c' s H Q tl act hc h
  have n1 : Gl (cxOf C8.CX0 X.prog X.w X.K X.mg X.base Ng x sg g cdg X.A X.stack s H C8.E0).nox e1 := hg1
  have n2 : Gl (cxOf C8.CX0 X.prog X.w X.K X.mg X.base Ng x sg g cdg X.A X.stack s H C8.E0).nox e2 := hg2
  refine ⟨_, pss_cons (ps_try_many (X := (cxOf C8.CX0 X.prog X.w X.K X.mg X.base Ng x sg g cdg X.A X.stack s H C8.E0).nox)
      (tb := fun W D σ H => ∃ Ech : XK, (∀ cls d σ' H', Ech cls d H' → W cls d σ' H') ∧ σ[0]? = some (some (.ref f)) ∧ H c' = some (CodeO c' q) ∧ tl Ech H fun _ H' => D.nx σ H')
      (l := [(.ref C1, fun _ _ _ => tRet (tC (.str r1))), (.ref C2, fun _ _ _ => tRet (tC (.str r2)))]) rfl rfl takes_none5 (fun W pn xe tk _ => ?_)
      (.cons ⟨n1, hd1, .inl hm1⟩ (fun _ _ _ _ _ _ _ => pss_one (ps_ret pe_str)) (.cons ⟨n2, hd2, .inl hm2⟩ (fun _ _ _ _ _ _ _ => pss_one (ps_ret pe_str)) .nil))) (pss_one (ps_ret pe_str)), ?_⟩
  · refine ⟨fun pins s' σ H' D I h' => ?_⟩
    obtain ⟨Ech, hW, h1, h2, h3⟩ := h'
    exact (pss_one (ps_expr (pos := p3) (act W pn xe Ech p1 p2 tk hW))).run pins s' σ H' D I ⟨h1, h2, h3⟩
  · exact ⟨fun cls _ H' => ∃ b, PySem.W.exmOne X.K cls (.ref C1) = some b ∧ (b = true → Q (.str r1) H') ∧ (b = false → ∃ b2, PySem.W.exmOne X.K cls (.ref C2) = some b2 ∧ (b2 = true → Q (.str r2) H') ∧ (b2 = false → False)),
      fun cls d σ' H' ⟨b, z1, z2, z3⟩ => ⟨b, z1, fun hb a _ => z2 hb, fun hb => let ⟨b2, y1, y2, y3⟩ := z3 hb; ⟨b2, y1, fun hb a _ => y2 hb, fun hb => y3 hb⟩⟩, h0 f, hc, h⟩
end
end Lk
/-! ### the end of a law row over FnG, with tables of code objects -/
namespace Lk
open PySem PySem.Spec PyProof.Rows L2 LamX
/-- the entry's abstract heap with the tables laid over it -/
def overT (cs : List (Addr × Addr)) (H : Hp) : Hp := fun b => if b ∈ cs.map (·.2) then some (.tbl #[]) else H b
theorem overT_in {cs : List (Addr × Addr)} {H : Hp} {b : Addr} (h : b ∈ cs.map (·.2)) : overT cs H b = some (.tbl #[]) := if_pos h
theorem overT_out {cs : List (Addr × Addr)} {H : Hp} {b : Addr} (h : b ∉ cs.map (·.2)) : overT cs H b = H b := if_neg h
theorem law_callTG {P : Program} {w : World} {K : PySem.W.Frag} {mg mb : Str → Option Value} {k : Nat} {fa a : Addr} {cs : List (Addr × Addr)} {fd : FuncData} {x : Str} {sp : Sp} {s₁ : Shared} {vs : List Value} {ns : List Int}
    (KX : K.In s₁.heap) (hns : s₁.heap.Ns mainGlobals mg) (hb : s₁.heap.Ns builtinsNs mb) (hbb : ∀ x : Str, x ≠ "__name__" → mb x = bootBuiltins x) (hlim : s₁.heap.NoLimit) (hg : s₁.gens = #[])
    (hT : ∀ p ∈ cs, s₁.heap.get? p.2 = some { cls := .none, data := .fields #[] }) (nT : ∀ p ∈ cs, K.lookup p.2 = none) (C : ∀ p ∈ cs, PySem.W.CodeHd s₁.heap p.1 p.2)
    (hbm : ∃ (bm : Addr) (ob : Obj), mg "__builtins__" = some (.ref bm) ∧ bm ≠ builtinsNs ∧ s₁.heap.get? bm = some ob ∧ ob.cls = .type "module" ∧ ob.dict = some builtinsNs ∧ ob.data = .plain)
    (ha : s₁.heap.get? a = some { cls := .type "list", data := .seq vs.toArray }) (hi : IntsAre vs ns) (hl : ns.length ≤ sizeLine) (hr : Room k callerA)
    (F : ∀ base : Heap, K.In base → base.Ns mainGlobals mg → (∀ p ∈ cs, TabB base mg p.1 p.2) → FnG P w K mg base CX0 k fa fd [x] sp) (hbind : ∀ (s : Shared) (u : Value), BindsTo s fd ⟨[u], []⟩ [(x, u)])
    (hsp : ∀ H : Hp, (∀ p ∈ cs, H p.2 = some (.tbl #[])) → SqL K H a (ns.map V.int) → sp [.ref a] H (fun v _ => v = .bl true) fun _ _ _ => False) :
    codeAny (model P w) callerA (.call (.ref fa) ⟨[.ref a], []⟩) (fun r s' => r = .ok (.ret (.bool true)) ∧ OldK s₁.heap s'.heap ∧ s'.os = s₁.os ∧ AllBare s'.gens) s₁ := by
  obtain ⟨H0, En⟩ := entry_of (P := P) (w := w) KX ha hi hl
  have tabAt : ∀ b ∈ cs.map (·.2), s₁.heap.get? b = some { cls := .none, data := .fields #[] } := by
    intro b hb
    obtain ⟨p, hp, rfl⟩ := List.mem_map.mp hb
    exact hT p hp
  have memT : ∀ p ∈ cs, p.2 ∈ cs.map (·.2) := fun p hp => List.mem_map.mpr ⟨p, hp, rfl⟩
  have aT : a ∉ cs.map (·.2) := fun z => by
    have e := (tabAt a z).symm.trans ha
    have e2 : Data.fields #[] = Data.seq vs.toArray := congrArg Obj.data (Option.some.inj e)
    cases e2
  -- an object that is neither the script nor a table is not tracked
  have free : ∀ {b : Addr} {o : Obj}, s₁.heap.get? b = some o → o.data ≠ .seq vs.toArray → o.data ≠ .fields #[] → overT cs H0 b = none := by
    intro b o e h1 h2
    have hb : b ∉ cs.map (·.2) := fun z => by
      rw [tabAt b z] at e
      cases e
      exact h2 rfl
    rw [overT_out hb]
    cases q : H0 b with
    | none => rfl
    | some u =>
      rw [En.just b u q, ha] at e
      cases e
      exact (h1 rfl).elim
  have nsB : ∀ {b : Addr} {m : Str → Option Value}, s₁.heap.Ns b m → (hidT s₁.heap (overT cs H0)).Ns b m := by
    rintro b m ⟨o, es, ep, e, d, r⟩
    refine ⟨o, es, ep, hidT_get e (free e ?_ ?_), d, r⟩ <;> rw [d] <;> intro z <;> cases z
  have kB : K.In (hidT s₁.heap (overT cs H0)) := by
    intro b o e
    have hb : b ∉ cs.map (·.2) := fun z => by
      obtain ⟨p, hp, rfl⟩ := List.mem_map.mp z
      rw [nT p hp] at e
      cases e
    refine hidT_get (KX b o e) ?_
    rw [overT_out hb]
    cases q : H0 b with
    | none => rfl
    | some u =>
      have e1 := En.just b u q
      subst e1
      rw [En.kout u q] at e; cases e
  have hM : L2.Mod K mg (hidT s₁.heap (overT cs H0)) := by
    obtain ⟨mc, h1, h2⟩ := hlim
    exact ⟨kB, nsB hns, ⟨mb, nsB hb, hbb⟩, ⟨mc, nsB h1, h2⟩⟩
  have TB : ∀ p ∈ cs, TabB (hidT s₁.heap (overT cs H0)) mg p.1 p.2 := by
    intro p hp
    refine ⟨?_, ?_, ?_⟩
    · obtain ⟨o, us, file, tf, flags, tg, inF, text, tt, e1, r1, r2, r3, rest⟩ := C p hp
      refine ⟨o, us, file, tf, flags, tg, inF, text, tt, hidT_get e1 (free e1 ?_ ?_), r1, r2, r3, rest⟩
      · rw [r2]; intro z; cases z
      · rw [r2]; intro z; cases z; simp at r3
    · obtain ⟨bm, ob, b1, b2, b3, b4, b5, b6⟩ := hbm
      refine ⟨bm, ob, b1, b2, ?_, ?_, hidT_get b3 (free b3 ?_ ?_), b4, b5, b6⟩
      · rintro rfl
        obtain ⟨o, es, ep, e, hd, _⟩ := hns
        rw [b3] at e
        cases e
        rw [b6] at hd
        cases hd
      · rintro rfl
        rw [hT p hp] at b3
        cases b3
        cases b6
      · rw [b6]; intro z; cases z
      · rw [b6]; intro z; cases z
    · intro z
      obtain ⟨o, es, ep, e, hd, _⟩ := hns
      rw [z, hT p hp] at e
      cases e
      cases hd
  have ok : HOk P w (overT cs H0) s₁.heap := by
    intro b u e
    by_cases hb : b ∈ cs.map (·.2)
    · rw [overT_in hb] at e
      cases e
      exact tabAt b hb
    · rw [overT_out hb] at e
      rcases En.only b with y | ⟨o, xs, y⟩
      · rw [y] at e; cases e
      · rw [y] at e
        cases e
        exact En.ok b _ y
  have e0 : Env0 P w K mg (hidT s₁.heap (overT cs H0)) callerA [] s₁ (overT cs H0) :=
    ⟨rfl, hM, fun b o e => of_hidT e, Nat.le_of_eq (hidT_size _ _), trivial, fun b hb => (nomatch (show b ∈ ([] : List Addr) from hb)), ok, .of_eq hg⟩
  have seq : SqL K (overT cs H0) a (ns.map V.int) := by
    have e := overT_out (H := H0) aT
    have q := En.seq
    unfold SqL Rd at q ⊢
    rw [e]
    exact q
  have run := (F _ kB (nsB hns) TB).run callerA [] s₁ (overT cs H0) ⟨[.ref a], []⟩ [.ref a] [.ref a] _ _ rfl hr e0 (hbind s₁ (.ref a)) (.cons rfl .nil) (hsp _ (fun p hp => overT_in (memT p hp)) seq)
  refine codeAny_mono run ?_
  intro r s' h
  match r, h with
  | .error e, h => exact h.elim
  | .ok (.ret u), ⟨v, H', os, bare, un, hok', r', q⟩ =>
    obtain rfl : v = .bl true := q
    obtain rfl : u = Value.bool true := r'
    have same : ∀ b o, b ∉ cs.map (·.2) → s₁.heap.get? b = some o → s'.heap.get? b = some o := by
      intro b o nb e
      have e1 := overT_out (H := H0) nb
      cases z : H0 b with
      | none => exact un.keep b o e (e1.trans z) (by intro y; exact nomatch (show b ∈ ([] : List Addr) from y)) (by simp)
      | some u =>
        rcases En.only b with y | ⟨ob, xs, y⟩
        · rw [z] at y; cases y
        · have p1 := (En.ok b _ y).1
          have p2 := (hok' b _ (un.frzs b ob _ (e1.trans y))).1
          rw [p1] at e
          cases e
          exact p2
    have grown : ∀ p ∈ cs, ∃ more : Array Value, s'.heap.get? p.2 = some { cls := .none, data := .fields more } := by
      intro p hp
      obtain ⟨more, z⟩ := un.tbls p.2 #[] (overT_in (memT p hp))
      exact ⟨_, hok' p.2 _ z⟩
    refine ⟨rfl, ⟨fun b o e => ?_, fun b o e => ?_⟩, os, bare⟩
    · by_cases hb : b ∈ cs.map (·.2)
      · obtain ⟨p, hp, rfl⟩ := List.mem_map.mp hb
        obtain ⟨more, hm⟩ := grown p hp
        rw [hT p hp] at e
        cases e
        exact .inr (.inl ⟨((C p hp).tab (hT p hp)).isCodeTable, rfl, #[], more, rfl, by rw [Array.empty_append]; exact hm⟩)
      · exact .inl (same b o hb e)
    · by_cases hb : b ∈ cs.map (·.2)
      · obtain ⟨p, hp, rfl⟩ := List.mem_map.mp hb
        obtain ⟨more, hm⟩ := grown p hp
        exact ⟨_, hm⟩
      · exact ⟨o, same b o hb e⟩
theorem walk_ofTG {l : PySem.W.OpenLaw} {n k : Nat} {q : Program} {loose : List Str} {XP : (Str → Option Value) → Heap → Prop} {YP : World → Heap → Prop} {d : DefRec} {K : Params → PySem.W.Frag} {x : Str}
    (hn : l.most = some n) (hn2 : n ≤ sizeLine) (hdf : d.params.defaults = []) (hr : Room k callerA) (hY : ∀ (w : World) (h : Heap), YP w h → (K w.params).In h)
    (F : ∀ (w : World) (mg : Str → Option Value) (fa : Addr) (h : Heap), YP w h → (K w.params).In h → h.Ns mainGlobals mg → mg d.name = some (.ref fa) →
      ∃ (fd : FuncData) (cs : List (Addr × Addr)) (sp : Sp), (∀ p ∈ cs, h.get? p.2 = some { cls := .none, data := .fields #[] }) ∧ (∀ p ∈ cs, (K w.params).lookup p.2 = none) ∧ (∀ p ∈ cs, PySem.W.CodeHd h p.1 p.2) ∧ (∀ (s : Shared) (u : Value), BindsTo s fd ⟨[u], []⟩ [(x, u)]) ∧
        (∀ (H : Hp) (a : Addr) (ns : List Int), ns.length ≤ n → (∀ p ∈ cs, H p.2 = some (.tbl #[])) → SqL (K w.params) H a (ns.map V.int) → sp [.ref a] H (fun v _ => v = .bl true) fun _ _ _ => False) ∧
        ∀ base : Heap, (K w.params).In base → base.Ns mainGlobals mg → (∀ p ∈ cs, TabB base mg p.1 p.2) → FnG l.prog w (K w.params) mg base CX0 k fa fd [x] sp) :
    PySem.W.WalkO q loose XP YP l.row.toRowW d [] (fun f vs => PySem.call f vs) := by
  refine Att.attach_callB hn hdf ?_
  intro w s₀ s₁ mg mb fa o pm cd doc a vs ns G Y ho hd hcd hmg hobj hints hlen hbits hg
  obtain ⟨fd, cs, sp, hT, nT, C, hb, hsp, hF⟩ := F w mg fa _ Y (hY w _ Y) G.T.g hmg
  exact law_callTG (hY w _ Y) G.T.g G.T.b G.T.builtins G.T.nolimit hg hT nT C G.T.bmain hobj hints (Nat.le_trans hlen hn2) hr hF hb fun H hT hS => hsp H a ns hlen hT hS
end Lk
namespace Lk
open PySem PySem.Spec PyProof.Rows L2
/-- behind the reckoning a token is out -/
def PEs (X : Cx) (e : Expr) (t : TE) : Prop :=
  ∀ (pins : List (Addr × Obj)) (s : Shared) (σ : L2.St) (H : Hp) (Q : VK), Inv X pins σ H s → t σ H Q → wpAny (model X.prog X.w) X.A (eval e X.env) (fun v s' => 1 ≤ s'.toks ∧ EP X pins σ Q v s') X.xe s
section
variable {X : Cx} {st : Stmt} {rest : List Stmt} {t u : TS} {K : PySem.W.Frag}
variable {e : Expr} {es : List Expr} {ta : TA} {te : TE} {name : Str} {apos cpos : Pos} {T id : String} {r : V → List V → Hp → VK → Prop} {x : Str} {j : Nat} {px : Pos}
theorem pes_bm (pa : PlainAttrs T) (slot : Slot T name id) (hty : typeOf (.builtin id) = pure (.type "method_descriptor")) (hm : MtR X id r) (ha : PA X (e :: es) ta)
    (hbase : attributeBase (.Constant (.str x) j px) name X.env (eval (.Constant (.str x) j px) X.env) = eval (.Constant (.str x) j px) X.env := by rfl)
    (hfew : Few X e es cpos := by rfl)
    (hline : (apos.endLine == cpos.line) = true := by rfl) (hs : starEach (e :: es) X.env = (false, eval e X.env) :: starEach es X.env := by rfl) (hplain : (backTo cpos (starEach es X.env)).any (·.1) = false := by rfl) (hK : X.K = K := by rfl) :
    PEs X (.Call (.Attribute (.Constant (.str x) j px) name apos) (e :: es) [] cpos) (tBM K T r (tC (.str x)) ta) := by
  subst hK
  intro pins s σ H Q I h
  refine wpAny_Call_method_late hbase hfew hline rfl (Calls.Constant_str ?_)
  have I1 := I.tok (s.toks + 1)
  obtain ⟨h1, h2⟩ := tyV_is I1 (show RelV (.str x) _ from ⟨s.toks, rfl⟩) h.1
  refine ⟨T, id, pa, slot, hty, h1, h2, ?_⟩
  have hA := ha.run cpos pins _ σ H _ I1 h.2
  refine wpAny_mono (wpAny_toks_of (n := 1) (by show 1 ≤ s.toks + 1; omega) (Q := EP X pins σ Q) (E := X.xe) ?_) (fun _ _ z => z) (fun _ _ z => z.2)
  rw [hs] at hA ⊢
  refine Calls.callWith_builtin (by show (false || (backTo cpos (starEach es X.env)).any (·.1)) = false; rw [hplain] <;> rfl) (Calls.evalArgs_plain ?_)
  exact thn hA fun us s2 ⟨vs, H2, I2, r2, q2⟩ => hm pins s2 σ H2 (.str x) vs (.str x s.toks) us Q I2 ⟨_, rfl⟩ r2 q2
/-- name = value; behind it a token is out -/
theorem pss_setT {i : Nat} {x : Str} {pos pos' : Pos} (hN : X.N.Nodup) (hi : X.N[i]? = some x) (hx : Loc X.env.scope x) (he : PEs X e te) (h2 : PSsT X rest u)
    (hs : swapsWith e (some (.Name x pos')) pos.line X.env = pure false := by rfl) (hf : X.fn x = true ∨ X.env.scope.names.lookup x = some .local := by first | exact .inl rfl | exact .inr rfl | assumption) :
    PSs X (.Assign [.Name x pos'] e pos :: rest) (tSeq (tAsg te (gName i)) u) := by
  refine ⟨fun pins s σ H D I h => ?_⟩
  refine wpAny_execs_cons (wpAny_Assign_Name (thn (he pins s σ H _ I h) fun v s1 q0 => ?_) hs)
  obtain ⟨hk, y, H1, I1, r1, q1⟩ := q0
  exact wpAny_mono (wpAny_toks_of hk (store_ok (Q := fun _ s2 => Inv X pins (σ.set i (some y)) H1 s2) I1 hN hi hx r1 (fun s2 I2 => I2) hf)) (fun _ s2 q => h2 pins s2 _ H1 D q.1 q.2 q1) (fun _ _ z => z.2)
theorem pst_set {i : Nat} {x : Str} {pos pos' : Pos} (hN : X.N.Nodup) (hi : X.N[i]? = some x) (hx : Loc X.env.scope x) (he : PET X e te)
    (hs : swapsWith e (some (.Name x pos')) pos.line X.env = pure false := by rfl) (hf : X.fn x = true ∨ X.env.scope.names.lookup x = some .local := by first | exact .inl rfl | exact .inr rfl | assumption) :
    PST X (.Assign [.Name x pos'] e pos) (tAsg te (gName i)) := by
  intro pins s σ H D h0 I h
  refine wpAny_Assign_Name (thn (he pins s σ H _ h0 I h) fun v s1 ⟨y, H1, I1, r1, q1⟩ => ?_) hs
  exact store_ok I1 hN hi hx r1 (fun s2 I2 => ⟨_, H1, I2, q1⟩) hf
/-- for, with a token out ahead of it: so it is within the body -/
theorem pst_forB {tg iter : Expr} {body : List Stmt} {wi : TI} {g : TG} {tb : TS} {pos : Pos} (hp : PassesOwn (model X.prog X.w) X.A X.env X.xe) (hc : X.calm = true) (hi : PI X tg iter wi) (hg : PG X tg g) (hb : PSsT X body tb)
    (hs : ∀ x, foldedSetIterable iter X.env x = pure x := by intro _; rfl) : PST X (.For tg iter body [] pos) (tFor wi g tb) := by
  intro pins s σ H D h0 I h
  refine wpAny_For (wpAny_mono (wpAny_toks_of h0 (hi.run pins s σ H _ I h)) (fun v s1 h1 => wpAny_mono (wpAny_toks_of h1.1 h1.2) (fun itv s2 h2 => ?_) fun _ _ z => z.2) fun _ _ z => z.2) hs
  obtain ⟨k2, it, fp, tn, J, H2, e, I2, T, st2, f2, W, ⟨m0, w0⟩, turn⟩ := h2
  subst e
  have stat : ∀ {H' : Hp}, (∀ b ∈ fp, H' b = none) → ∀ b ∈ fp, FpOk X pins H' b := fun hn b hb => ⟨hn b hb, (f2 b hb).2⟩
  refine codeAny_forLoop_any (fun n s' => 1 ≤ s'.toks ∧ ∃ i σ' H', Inv X pins σ' H' s' ∧ tn i s'.heap ∧ (∀ b ∈ fp, H' b = none) ∧ W i n σ' H') ?_ m0 ⟨k2, 0, σ, H2, I2, st2, fun b hb => (f2 b hb).1, w0⟩
  rintro n s3 ⟨k3, i, σ3, H3, I3, st3, fr3, w3⟩
  rcases turn i n σ3 H3 w3 with ⟨stop, qn⟩ | ⟨go, N, hN, step⟩
  · refine wpAny_passesOwn hp (thn (T.done X rfl rfl rfl hc i pins s3 σ3 H3 X.xe I3 (stat fr3) st3 stop) fun r s4 ⟨hr, I4⟩ => ?_)
    subst hr
    exact wpAny_execs_nil ⟨σ3, H3, I4, qn⟩
  · refine wpAny_mono (wpAny_toks_of k3 (wpAny_passesOwn hp (T.item X rfl rfl rfl hc i pins s3 σ3 H3 X.xe I3 (stat fr3) st3 go))) (fun r s4 ⟨k4, u, hr, h4⟩ => ?_) fun _ _ z => z.2
    subst hr
    refine wpAny_mono (wpAny_toks_of k4 (wpAny_passesOwn hp h4)) (fun _ s5 ⟨k5, x, H5, I5, r5, y5, st5, fr5⟩ => ?_) fun _ _ z => z.2
    have I5' := I5.pinned (stat fr5) (T.obj _ _ st5)
    refine wpAny_mono (wpAny_toks_of k5 (wpAny_passesOwn hp (hg.run _ s5 σ3 H5 x u _ I5' r5 (step x H5 y5)))) (fun _ s6 ⟨k6, σ6, H6, I6, q6⟩ => ?_) fun _ _ z => z.2
    refine wpAny_mono (wpAny_toks_of k6 (wpAny_passesOwn hp (hb _ s6 σ6 H6 _ k6 I6 q6))) (fun f s7 ⟨k7, q7⟩ => ?_) fun _ _ z => z.2
    have again : ∀ {σ7 : L2.St} {H7 : Hp}, Inv X (pins ++ pinsAt fp s5.heap) σ7 H7 s7 → N σ7 H7 → ∃ m, m < n ∧ 1 ≤ s7.toks ∧ ∃ i σ' H', Inv X pins σ' H' s7 ∧ tn i s7.heap ∧ (∀ b ∈ fp, H' b = none) ∧ W i m σ' H' := fun {σ7 H7} I7 n7 => by
      obtain ⟨m', hm, w7⟩ := hN σ7 H7 n7
      refine ⟨m', hm, k7, i + 1, σ7, H7, I7.unpinned, T.keep _ _ _ st5 fun b hb o e => (I7.pin (b, o) (List.mem_append_right _ (List.mem_append_right _ (mem_pinsAt hb e)))).1, fun b hb => ?_, w7⟩
      obtain ⟨o, e, d⟩ := T.obj _ _ st5 b hb
      exact (I7.pin (b, o) (List.mem_append_right _ (List.mem_append_right _ (mem_pinsAt hb e)))).2.1
    cases f with
    | next => obtain ⟨σ7, H7, I7, n7⟩ := q7; exact again I7 n7
    | cont => obtain ⟨σ7, H7, I7, n7⟩ := q7; exact again I7 n7
    | brk => obtain ⟨σ7, H7, I7, q7⟩ := q7; exact ⟨σ7, H7, I7.unpinned, q7⟩
    | ret v => obtain ⟨x7, σ7, H7, I7, r7, q7⟩ := q7; exact ⟨x7, σ7, H7, I7.unpinned, r7, q7⟩
end
end Lk
/-! ### x, *rest = a list or a tuple -/
namespace Lk
open PySem PySem.Spec PySem.W PyProof.Rows
section
variable {P : Program} {w : World} {A : Around} {E : Value → Shared → Prop} {s : Shared} {l : Addr} {v : Value} {vs : List Value} {Q : List Value → Shared → Prop}
/-- what stands behind x, *rest = ..: the rest is a new list, all else stays -/
def Rested (s : Shared) (v : Value) (vs : List Value) (Q : List Value → Shared → Prop) : Prop :=
  ∀ (g : Heap) (tk : Nat), (∀ b o, s.heap.get? b = some o → g.get? b = some o) → Q [v, .ref g.objs.size] { s with heap := g.push { cls := .type "list", data := .seq vs.toArray }, toks := tk }
theorem star_of_list (hh : A.handled = none) (hl : s.heap.IsList l (v :: vs).toArray) (hz : vs.length + 1 ≤ sizeLine) (h : Rested s v vs Q) : wpAny (model P w) A (unpackItems (.ref l) 2 (some 1)) Q E s := by
  obtain ⟨ol, hol⟩ : ∃ o, s.heap.get? l = some o := let ⟨o, e, _⟩ := hl; ⟨o, e⟩
  have ne : l ≠ s.heap.objs.size := Nat.ne_of_lt (Heap.lt_size hol)
  have n1 : 0 + 1 ≤ (v :: vs).toArray.size := by simp
  unfold unpackItems notIterableAtAll
  refine wpAny_bind (wpAny_bind (wpAny_specialOf hl.typeIs slot_list_iter.lookup (wpAny_pure ?_)))
  rw [if_neg (by decide)]
  refine wpAny_bind (wpAny_holding (wpAny_pyIter_list hl (wpAny_bind (wpAny_holding (kun_draw ne 1 0 _ _ ⟨_, Heap.get?_push_size _ rfl, rfl, rfl⟩ (hl.push _) n1 fun g hi sb => ?_)))))
  have lg : g.IsList l (v :: vs).toArray := (hl.push _).extBut sb.extBut ne
  have szg : s.heap.objs.size < g.objs.size := by obtain ⟨o, e, _⟩ := hi; exact Heap.lt_size e
  have llg : l < g.objs.size := Nat.lt_trans (Heap.lt_size hol) szg
  rw [if_neg (by simp)]
  refine wpAny_bind (wpAny_holding (kun_collect (s := { s with heap := g }) (items := (v :: vs).toArray) (T := "list_iterator") (.inr (.inr (.inl rfl))) (Walks.list (A := A.in1) hh s.heap.objs.size l ne (v :: vs).toArray) (fun _ _ st => st.1.typeIs) (k := 1) (by simp) ⟨hi, lg⟩ szg llg (fun g2 tk kp => ?_) (by simpa using hz)))
  have kp2 : ∀ b o, s.heap.get? b = some o → g2.get? b = some o := fun b o e => by
    have nb : b ≠ s.heap.objs.size := Nat.ne_of_lt (Heap.lt_size e)
    exact kp b o nb (sb.extBut b o nb (Heap.get?_push_of_some _ e))
  simp only [List.drop_succ_cons, List.drop_zero, List.take_succ_cons, List.take_zero, Nat.sub_self, Nat.sub_zero, List.take_length, List.drop_length, Nat.not_lt_zero, if_false, Nat.reduceSub]
  exact wpAny_bind (wpAny_newList (wpAny_pure (h g2 tk kp2)) (by omega))
theorem star_of_tup (hh : A.handled = none) (hl : IsTup s.heap l (v :: vs).toArray) (hz : vs.length + 1 ≤ sizeLine) (h : Rested s v vs Q) : wpAny (model P w) A (unpackItems (.ref l) 2 (some 1)) Q E s := by
  obtain ⟨ol, hol⟩ : ∃ o, s.heap.get? l = some o := let ⟨o, e, _⟩ := hl; ⟨o, e⟩
  have ne : l ≠ s.heap.objs.size := Nat.ne_of_lt (Heap.lt_size hol)
  have n1 : 0 + 1 ≤ (v :: vs).toArray.size := by simp
  unfold unpackItems notIterableAtAll
  refine wpAny_bind (wpAny_bind (wpAny_specialOf hl.typeIs slot_tuple_iter.lookup (wpAny_pure ?_)))
  rw [if_neg (by decide)]
  refine wpAny_bind (wpAny_holding (iter_tuple hl (wpAny_bind (wpAny_holding (draw_tuple ne 1 0 _ _ ⟨_, Heap.get?_push_size _ rfl, rfl, rfl⟩ (hl.push _) n1 fun g hi sb => ?_)))))
  have lg : IsTup g l (v :: vs).toArray := (hl.push _).extBut sb.extBut ne
  have szg : s.heap.objs.size < g.objs.size := by obtain ⟨o, e, _⟩ := hi; exact Heap.lt_size e
  have llg : l < g.objs.size := Nat.lt_trans (Heap.lt_size hol) szg
  rw [if_neg (by simp)]
  refine wpAny_bind (wpAny_holding (kun_collect (s := { s with heap := g }) (items := (v :: vs).toArray) (T := "tuple_iterator") (.inr (.inr (.inr rfl))) (Walks.tuple (A := A.in1) hh s.heap.objs.size l ne (v :: vs).toArray) (fun _ _ st => st.1.typeIs) (k := 1) (by simp) ⟨hi, lg⟩ szg llg (fun g2 tk kp => ?_) (by simpa using hz)))
  have kp2 : ∀ b o, s.heap.get? b = some o → g2.get? b = some o := fun b o e => by
    have nb : b ≠ s.heap.objs.size := Nat.ne_of_lt (Heap.lt_size e)
    exact kp b o nb (sb.extBut b o nb (Heap.get?_push_of_some _ e))
  simp only [List.drop_succ_cons, List.drop_zero, List.take_succ_cons, List.take_zero, Nat.sub_self, Nat.sub_zero, List.take_length, List.drop_length, Nat.not_lt_zero, if_false, Nat.reduceSub]
  exact wpAny_bind (wpAny_newList (wpAny_pure (h g2 tk kp2)) (by omega))
end
end Lk
namespace Lk
open PySem PySem.Spec PyProof.Rows L2
section
variable {X : Cx}
/-- x, *rest = ..: the first and a new list of the others -/
def gStar (K : PySem.W.Frag) (t : TGs) : TG := fun v σ H Q => ∃ a x xs, v = .ref a ∧ (SqL K H a (x :: xs) ∨ SqT K H a (x :: xs)) ∧ ∀ D, H D = none → t [x, .ref D] σ (upd H D (.lst xs)) Q
theorem pg_star {e1 e2 : Expr} {k : Nat} {p pos : Pos} {t : TGs} {K : PySem.W.Frag} (hc : X.calm = true) (h : PGs X [e1, e2] t) (hK : X.K = K := by rfl)
    (hl : (assignEach [e1, .Starred e2 p] X.env).length = 2 := by rfl) (hst : (assignEach [e1, .Starred e2 p] X.env).findIdx? (·.1) = some 1 := by rfl)
    (hm : (assignEach [e1, .Starred e2 p] X.env).map (·.2) = (assignEach [e1, e2] X.env).map (·.2) := by rfl) : PG X (.Tuple [e1, .Starred e2 p] k pos) (gStar K t) := by
  subst hK
  refine ⟨fun pins s σ H v u Q I r hw => ?_⟩
  obtain ⟨a, x, xs, rfl, hq, hw⟩ := hw
  cases r
  rw [PyProof.Rows.assign_Tuple]
  refine wpAny_bind (wpAny_standAt ?_)
  unfold unpack
  rw [hl, hst, hm]
  have fin : ∀ (v : Value) (vs : List Value), RelV x v → Vals xs vs → xs.length ≤ sizeLine → Rested s v vs fun ws s' => wpAny (model X.prog X.w) X.A (assignInOrder ((assignEach [e1, e2] X.env).map (·.2)) ws) (fun _ s' => ∃ σ' H', Inv X pins σ' H' s' ∧ Q σ' H') X.xe s' := by
    intro v vs r1 rs hz g tk kp
    have I1 : Inv X pins σ H { s with heap := g, toks := tk } := I.kept kp
    have I2 : Inv X pins σ (upd H g.objs.size (.lst xs)) { s with heap := g.push { cls := .type "list", data := .seq vs.toArray }, toks := tk } :=
      I1.laid (t' := tk) (fun b o e => Heap.get?_push_of_some _ e) (Nat.le_refl _) ⟨hz, vs, 0, rs, Heap.get?_push_size _ rfl⟩
    exact h.run pins _ σ _ [x, .ref g.objs.size] _ Q I2 (.cons r1 (.cons rfl .nil)) (hw _ (I1.hok.fresh (Nat.le_refl _)))
  rcases hq with hq | hq
  · obtain ⟨its, rv, ⟨o, m, e, c, d, q⟩, hz⟩ := I.list hq
    cases rv with
    | cons r1 rs =>
      rw [List.length_cons] at hz
      exact wpAny_bind (wpAny_holding (star_of_list (I.ok.hd hc) ⟨o, e, c, m, q⟩ (by rw [← rs.length]; omega) (fin _ _ r1 rs (by omega))))
  · obtain ⟨its, rv, ht, hz⟩ := I.tuple hq
    cases rv with
    | cons r1 rs =>
      rw [List.length_cons] at hz
      exact wpAny_bind (wpAny_holding (star_of_tup (I.ok.hd hc) ht (by rw [← rs.length]; omega) (fin _ _ r1 rs (by omega))))
end
end Lk
namespace My
open PySem PySem.Spec PyProof.Rows L2 Lk Evl LamX
def Dice (H : Hp) (d : Addr) : Prop := ∃ a b c : Int, H d = some (.lst [.int a, .int b, .int c])
structure Roll (d : Addr) (H H' : Hp) : Prop where
  dice : Dice H' d
  keep : ∀ b o, H b = some o → b ≠ d → H' b = some o
theorem Dice.upd {H : Hp} {d : Addr} {a b c : Int} : Dice (upd H d (.lst [.int a, .int b, .int c])) d := ⟨a, b, c, upd_same⟩
theorem Roll.upd {H : Hp} {d : Addr} {a b c : Int} : Roll d H (upd H d (.lst [.int a, .int b, .int c])) := ⟨Dice.upd, fun b o e hb => by rw [upd_ne hb]; exact e⟩
theorem Roll.refl {H : Hp} {d : Addr} (h : Dice H d) : Roll d H H := ⟨h, fun _ _ e _ => e⟩
theorem Roll.trans {d : Addr} {H H1 H2 : Hp} (a : Roll d H H1) (b : Roll d H1 H2) : Roll d H H2 := ⟨b.dice, fun c o e n => b.keep c o (a.keep c o e n) n⟩
theorem Roll.ex {d : Addr} {H H1 H2 : Hp} (a : Roll d H H1) (b : Ex H1 H2) : Roll d H H2 := ⟨by obtain ⟨x, y, z, e⟩ := a.dice; exact ⟨x, y, z, b _ _ e⟩, fun c o e n => b _ _ (a.keep c o e n)⟩
theorem Roll.of_ex {d : Addr} {H H1 : Hp} (h : Dice H d) (b : Ex H H1) : Roll d H H1 := (Roll.refl h).ex b
abbrev tl (z : Str) : List Nat := z.cps.toList
theorem tl_len (z : Str) : (tl z).length = z.length := by simp [tl, Str.length]
def SG : Str := "#$0123:_abcdefg"
def sigs : List Nat := tl SG
theorem sigs_eq : sigs = [35, 36, 48, 49, 50, 51, 58, 95, 97, 98, 99, 100, 101, 102, 103] := by decide +kernel
def isStr : V → Bool
  | .str _ => true
  | _ => false
def isText : V → Bool
  | .str z => (tl z).all fun c => decide (c ∈ sigs)
  | _ => false
theorem sgn_inj {a c : Nat} : sgn a = sgn c ↔ a = c := by
  constructor
  · intro h
    have := congrArg (fun z : Str => z.cps.toList) h
    simpa [sgn] using this
  · intro h; rw [h]
theorem beq_sgn (a c : Nat) : (sgn a == sgn c) = decide (a = c) := by
  by_cases h : a = c
  · subst h; simp
  · rw [decide_eq_false h]
    exact beq_eq_false_iff_ne.mpr fun e => h (sgn_inj.mp e)
section
/-- what a value must be for the checks: its type is known, a text is not too long -/
structure Known (K : PySem.W.Frag) (H : Hp) (v : V) : Prop where
  ty : ∃ t, TyX K H v t ∧ PySem.W.kitOne K t (.type "str") = some (isStr v)
  len : ∀ z, v = .str z → z.length ≤ 1000000
theorem kit_str (K : PySem.W.Frag) : PySem.W.kitOne K (.type "str") (.type "str") = some true := by rfl
theorem Known.str {K : PySem.W.Frag} {H : Hp} {z : Str} (h : z.length ≤ 1000000) : Known K H (.str z) := ⟨⟨_, .base (.str z), kit_str K⟩, fun y e => by cases e; exact h⟩
end
theorem roll_mut {d L : Addr} {H H' : Hp} {o : HO} (R : Roll d H H') (hL : H L = none) (hn : L ≠ d) : Roll d H (upd H' L o) := by
  refine ⟨?_, fun b o e n => ?_⟩
  · obtain ⟨a, b, c, e⟩ := R.dice
    exact ⟨a, b, c, by rw [upd_ne hn.symm]; exact e⟩
  · rw [upd_ne (ne_of_none e hL)]
    exact R.keep _ _ e n
theorem perm_erase : ∀ (l : List V) (n : Nat) (h : n < l.length), (l[n] :: l.eraseIdx n).Perm l
  | x :: l, 0, h => .refl _
  | x :: l, n + 1, h => by
    have h' : n < l.length := by simpa using h
    have ih := perm_erase l n h'
    show (l[n] :: x :: l.eraseIdx n).Perm (x :: l)
    exact (List.Perm.swap x l[n] _).trans (.cons x ih)
theorem Roll.fresh {d a : Addr} {H H' : Hp} (R : Roll d H H') (h : H' a = none) : H a = none := by
  cases z : H a with
  | none => rfl
  | some o =>
    exfalso
    by_cases e : a = d
    · obtain ⟨x1, x2, x3, q⟩ := R.dice
      rw [e, q] at h; cases h
    · have := R.keep _ _ z e
      rw [this] at h; cases h
abbrev sV (c : Nat) : V := .str (sgn c)
/-- a tuple of signs -/
def SignsAt (H : Hp) (a : Addr) (cs : List Nat) (n : Nat) : Prop := H a = some (.tup (cs.map sV)) ∧ 1 ≤ cs.length ∧ cs.length ≤ n ∧ ∀ c ∈ cs, c ∈ sigs
theorem perm_sgn {ys : List Str} {l : List Nat} (h : (ys.map V.str).Perm (l.map sV)) : ∃ cs : List Nat, ys.map V.str = cs.map sV ∧ cs.Perm l := by
  have e : (l.map sV) = (l.map sgn).map V.str := by rw [List.map_map]; rfl
  rw [e] at h
  have h2 : ys.Perm (l.map sgn) := by
    have inj : ∀ {a b : List Str}, (a.map V.str).Perm (b.map V.str) → a.Perm b := fun {a b} h => by
      have := h.map (fun v => match v with | V.str z => z | _ => Str.empty)
      simpa [List.map_map, Function.comp_def] using this
    exact inj h
  have all : ∀ y ∈ ys, ∃ c ∈ l, y = sgn c := fun y hy => by
    have := h2.mem_iff.mp hy
    obtain ⟨c, hc, rfl⟩ := List.mem_map.mp this
    exact ⟨c, hc, rfl⟩
  refine ⟨ys.map fun y => y.cps.toList.headD 0, ?_, ?_⟩
  · rw [List.map_map]
    refine List.map_congr_left fun y hy => ?_
    obtain ⟨c, _, rfl⟩ := all y hy
    simp [sgn]
  · have := h2.map (fun y : Str => y.cps.toList.headD 0)
    rw [List.map_map] at this
    have e2 : (l.map ((fun y : Str => y.cps.toList.headD 0) ∘ sgn)) = l := by
      rw [show ((fun y : Str => y.cps.toList.headD 0) ∘ sgn) = id from by funext c; simp [sgn]]
      exact List.map_id l
    rw [e2] at this
    exact this
/-- all signs of z are among l -/
def Over (l : List Nat) (z : Str) : Prop := ∀ c ∈ tl z, c ∈ l
theorem tl_app (x y : Str) : tl (x ++ y) = tl x ++ tl y := TL.tl_append x y
theorem len_app (x y : Str) : (x ++ y).length = x.length + y.length := by rw [← tl_len, tl_app, List.length_append, tl_len, tl_len]
theorem tl_sgn (c : Nat) : tl (sgn c) = [c] := rfl
theorem len_sgn (c : Nat) : (sgn c).length = 1 := rfl
theorem atI_of {α : Type} {l : List α} {i : Int} {k : Nat} {x : α} (h : l[k]? = some x) (e : i = (k : Int)) : atI l i = some x := by rw [e]; exact atI_nat h
theorem get_map {α β : Type} {l : List α} {k : Nat} {x : α} (f : α → β) (h : l[k]? = some x) : (l.map f)[k]? = some (f x) := by rw [List.getElem?_map, h]; rfl
theorem e_dice {d : Addr} {H H' : Hp} (e : Ex H H') (h : Dice H d) : Dice H' d := by obtain ⟨a, b, c, z⟩ := h; exact ⟨a, b, c, e _ _ z⟩
/-- a text of signs of l, not empty -/
def Word (l : List Nat) (n : Nat) (z : Str) : Prop := 1 ≤ z.length ∧ z.length ≤ n ∧ Over l z
theorem joinL_nil : ∀ l : List (List Nat), TL.joinL [] l = l.flatten
  | [] => rfl
  | [p] => by simp [TL.joinL]
  | p :: q :: r => by
    show p ++ ([] ++ TL.joinL [] (q :: r)) = _
    rw [joinL_nil (q :: r)]
    simp
theorem flat_sgn (ds : List Nat) : (ds.map (TL.tl ∘ sgn)).flatten = ds := by
  induction ds with
  | nil => rfl
  | cons d ds ih =>
    rw [List.map_cons, List.flatten_cons, ih]
    rfl
theorem join_sgns (ds : List Nat) : tl (Txt.join (Str.ofString "") (ds.map sgn)) = ds := by
  rw [TL.join_eq]
  have := TL.tl_join (Str.ofString "") (ds.map sgn)
  rw [show TL.tl (Str.ofString "") = [] from by decide +kernel, joinL_nil, List.map_map] at this
  rw [show tl (Str.join (Str.ofString "") (ds.map sgn)) = TL.tl (Str.join (Str.ofString "") (ds.map sgn)) from rfl, this]
  exact flat_sgn ds
/-- a comprehension whose elements draw -/
theorem lc_draw {I : Hp → Prop} {J : It} {xs : List V} {te : TE} {i : Nat} {σ : L2.St} {d : Addr} {H1 : Hp} {D : Addr} {Qd : Hp → Prop} (F : Feeds I J xs) (S : V → Prop) (hd : Dice H1 d) (hD : H1 D = none) (hI : ∀ H, Roll d H1 H → I H) (hz : xs.length ≤ 1000000)
    (hte : ∀ x ∈ xs, ∀ (H2 : Hp) (Q2 : VK), Roll d H1 H2 → (∀ v H3, S v → Roll d H2 H3 → Q2 v H3) → te ((σ.set i none).set i (some x)) H2 Q2)
    (hq : ∀ H' ys, Roll d H1 H' → H' D = some (.lst ys) → ys.length = xs.length → (∀ v ∈ ys, S v) → Qd H') :
    ∃ W : Nat → Nat → Hp → Prop, (∃ m, W 0 m (upd H1 D (.lst []))) ∧ ∀ j m H, W j m H →
      (J.stop j H ∧ Qd H) ∨ (J.go j H ∧ ∃ Nx : Hp → Prop, (∀ H', Nx H' → ∃ m', m' < m ∧ W (j + 1) m' H') ∧ ∀ x' H', J.yld j H x' H' → gName i x' (wipe σ [i]) H' fun σ2 H2 => wipe σ2 [i] = wipe σ [i] ∧ tYes σ2 H2 fun b H3 =>
        if b = true then te σ2 H3 fun y H4 => ∃ acc, H4 D = some (.lst acc) ∧ acc.length < sizeLine ∧ Nx (upd H4 D (.lst (acc ++ [y]))) else Nx H3) := by
  have hDd : D ≠ d := fun e => by
    obtain ⟨a, b, c, z⟩ := hd
    rw [e, z] at hD; cases hD
  refine lc_of F (fun j H => ∃ ys, Roll d H1 H ∧ H D = some (.lst ys) ∧ ys.length = j ∧ ∀ v ∈ ys, S v) ⟨[], Roll.of_ex hd (Ex.new hD), upd_same, rfl, fun v h => nomatch h⟩ (fun _ H h => by obtain ⟨_, h, _⟩ := h; exact hI H h) ?_ (fun H h => by obtain ⟨ys, a, b, c, e⟩ := h; exact hq H ys a b c e)
  rintro j x H hx ⟨ys, e1, e2, e3, e4⟩
  refine ⟨by simp [wipe], ?_⟩
  refine hte x (mem_get hx) H _ e1 fun v H3 hv e5 => ⟨_, e5.keep _ _ e2 hDd, ?_, ys ++ [v], roll_mut (e1.trans e5) hD hDd, upd_same, by simp [e3], fun u hu => ?_⟩
  · have := lt_get hx
    have := sizeL hz
    omega
  · rcases List.mem_append.mp hu with h | h
    · exact e4 u h
    · rw [List.mem_singleton] at h; rw [h]; exact hv
theorem sgn_list {l : List Nat} : ∀ {ys : List V}, (∀ v ∈ ys, ∃ c ∈ l, v = sV c) → ∃ ds : List Nat, ys = (ds.map sgn).map V.str ∧ ∀ c ∈ ds, c ∈ l
  | [], _ => ⟨[], rfl, fun _ h => nomatch h⟩
  | y :: ys, h => by
    obtain ⟨c, hc, rfl⟩ := h y List.mem_cons_self
    obtain ⟨ds, e, hd⟩ := sgn_list fun v hv => h v (List.mem_cons_of_mem _ hv)
    exact ⟨c :: ds, by rw [e]; rfl, fun u hu => by
      rcases List.mem_cons.mp hu with h | h
      · rw [h]; exact hc
      · exact hd u h⟩
theorem sum_sgn (ds : List Nat) : ((ds.map sgn).map (·.length)).sum = ds.length := by
  induction ds with
  | nil => rfl
  | cons d ds ih => simp only [List.map_cons, List.sum_cons, ih, len_sgn, List.length_cons]; omega
theorem tl_cut (z : Str) (lo hi : Option Int) : tl (cutS z lo hi) = ((tl z).drop (HT.sIx z.length 0 lo)).take (HT.sIx z.length z.length hi - HT.sIx z.length 0 lo) := by
  simp [cutS, tl]
theorem tl_cutFrom (z : Str) (k : Nat) : tl (cutS z (some k) none) = (tl z).drop k := by
  rw [tl_cut, HT.sIx_none, show HT.sIx z.length 0 (some (k : Int)) = min k z.length from HT.sIx_nat z.length 0 k]
  have := tl_len z
  by_cases h : k ≤ z.length
  · rw [Nat.min_eq_left h, List.take_of_length_le]
    rw [List.length_drop]; omega
  · rw [Nat.min_eq_right (by omega), Nat.sub_self, List.take_zero, List.drop_eq_nil_of_le (by omega)]
theorem tl_cutTo (z : Str) (k : Nat) : tl (cutS z none (some k)) = (tl z).take k := by
  rw [tl_cut, HT.sIx_none, show HT.sIx z.length z.length (some (k : Int)) = min k z.length from HT.sIx_nat z.length z.length k, List.drop_zero, Nat.sub_zero]
  have := tl_len z
  by_cases h : k ≤ z.length
  · rw [Nat.min_eq_left h]
  · rw [Nat.min_eq_right (by omega), List.take_of_length_le (by omega), List.take_of_length_le (by omega)]
theorem tl_cut1 (z : Str) : tl (cutS z (some 1) none) = (tl z).drop 1 := tl_cutFrom z 1
theorem len_cut1 (z : Str) : (cutS z (some 1) none).length = z.length - 1 := by rw [← tl_len, tl_cut1, List.length_drop, tl_len]
theorem ne_empty {z : Str} : (V.str z = V.str (Str.ofString "")) ↔ tl z = [] := by
  constructor
  · intro h
    have := V.str.inj h
    rw [this]
    decide +kernel
  · intro h
    congr 1
    exact TL.ext_tl (h.trans (by decide +kernel))
theorem over_app {l : List Nat} {x y : Str} (hx : Over l x) (hy : Over l y) : Over l (x ++ y) := fun c hc => by
  rw [tl_app] at hc
  rcases List.mem_append.mp hc with h | h
  · exact hx c h
  · exact hy c h
theorem over_cut {l : List Nat} {x : Str} (lo hi : Option Int) (hx : Over l x) : Over l (cutS x lo hi) := fun c hc => by
  rw [tl_cut] at hc
  exact hx c (List.mem_of_mem_drop (List.mem_of_mem_take hc))
theorem over_sgn {l : List Nat} {c : Nat} (h : c ∈ l) : Over l (sgn c) := fun x hx => by
  rw [tl_sgn, List.mem_singleton] at hx; rw [hx]; exact h
theorem len_cut (x : Str) (lo hi : Option Int) : (cutS x lo hi).length ≤ x.length := by
  rw [← tl_len, tl_cut, ← tl_len x, List.length_take, List.length_drop]; omega
theorem over_mono {l m : List Nat} {x : Str} (h : Over l x) (hs : ∀ c ∈ l, c ∈ m) : Over m x := fun c hc => hs c (h c hc)
theorem dice_ne {H : Hp} {d b : Addr} {o : HO} (h : Dice H d) (e : H b = some o) (n : ∀ xs, o ≠ .lst xs) : b ≠ d := fun z => by
  obtain ⟨x, y, u, e2⟩ := h
  rw [z, e2] at e
  exact n _ (Option.some.inj e).symm
theorem tabs_roll {T : List (Addr × Str)} {d : Addr} {H H' : Hp} (R : Roll d H H') (hd : Dice H d) (t : Tabs T H) : Tabs T H' := fun p hp => by
  obtain ⟨ps, h1, h2, h3⟩ := t p hp
  refine ⟨ps, R.keep _ _ h1 (dice_ne hd h1 fun xs z => by cases z), h2, fun pos cv hc => ?_⟩
  obtain ⟨c, e1, e2⟩ := h3 pos cv hc
  exact ⟨c, e1, R.keep _ _ e2 (dice_ne hd e2 fun xs z => by unfold CodeO at z; cases z)⟩
/-- all but the dice and the tables stays -/
def KpT (d : Addr) (H H' : Hp) : Prop := Dice H' d ∧ ∀ b o, H b = some o → b ≠ d → (∀ ps, o ≠ .tbl ps) → H' b = some o
theorem KpT.roll {d : Addr} {H H' : Hp} (R : Roll d H H') : KpT d H H' := ⟨R.dice, fun b o e n _ => R.keep b o e n⟩
theorem KpT.trans {d : Addr} {H H1 H2 : Hp} (a : KpT d H H1) (b : KpT d H1 H2) : KpT d H H2 := ⟨b.1, fun c o e n t => b.2 c o (a.2 c o e n t) n t⟩
theorem KpT.ext {d : Addr} {H H' : Hp} (hd : Dice H d) (e : ExtN H H') : KpT d H H' := ⟨by obtain ⟨x, y, z, h⟩ := hd; exact ⟨x, y, z, e _ _ h fun ps z => by cases z⟩, fun b o h _ t => e b o h t⟩
theorem KpT.mut {d M : Addr} {H H' : Hp} {o : HO} (k : KpT d H H') (f : ∀ o, H M = some o → (∀ ps, o ≠ .tbl ps) → False) (n : M ≠ d) : KpT d H (upd H' M o) :=
  ⟨by obtain ⟨x, y, z, e⟩ := k.1; exact ⟨x, y, z, by rw [upd_ne n.symm]; exact e⟩, fun b u e nb nt => by
    rw [upd_ne (fun z => f u (by rw [← z]; exact e) nt)]
    exact k.2 b u e nb nt⟩
theorem tabs_mut {T : List (Addr × Str)} {M : Addr} {H : Hp} {xs : List V} {o : HO} (t : Tabs T H) (h : H M = some (.lst xs)) : Tabs T (upd H M o) := fun p hp => by
  obtain ⟨ps, h1, h2, h3⟩ := t p hp
  refine ⟨ps, by rw [upd_ne (fun z => by rw [z, h] at h1; cases h1)]; exact h1, h2, fun pos cv hc => ?_⟩
  obtain ⟨c, e1, e2⟩ := h3 pos cv hc
  exact ⟨c, e1, by rw [upd_ne (fun z => by rw [z, h] at e2; unfold CodeO at e2; cases e2)]; exact e2⟩
/-- a value of no longer text, or a flat container: what isinstance tells of it stays told -/
inductive Thing (H : Hp) : V → Prop
  | non : Thing H .non
  | bl (b : Bool) : Thing H (.bl b)
  | int (i : Int) : Thing H (.int i)
  | str {z : Str} (h : z.length ≤ 1000000) : Thing H (.str z)
  | tup {a : Addr} {xs : List V} (e : H a = some (.tup xs)) : Thing H (.ref a)
  | lst {a : Addr} {xs : List V} (e : H a = some (.lst xs)) : Thing H (.ref a)
  | dk {a : Addr} {xs : List (Key × V)} (e : H a = some (.dK xs)) : Thing H (.ref a)
theorem Thing.known {K : PySem.W.Frag} {H : Hp} {v : V} (h : Thing H v) : Known K H v := by
  cases h with
  | non => exact ⟨⟨_, .base .non, rfl⟩, fun _ e => by cases e⟩
  | bl b => exact ⟨⟨_, .base (.bl b), rfl⟩, fun _ e => by cases e⟩
  | int i => exact ⟨⟨_, .base (.int i), rfl⟩, fun _ e => by cases e⟩
  | str h => exact Known.str h
  | tup e => exact ⟨⟨_, .base (.tup e), rfl⟩, fun _ e => by cases e⟩
  | lst e => exact ⟨⟨_, .base (.lst e), rfl⟩, fun _ e => by cases e⟩
  | dk e => exact ⟨⟨_, .base (.dK e), rfl⟩, fun _ e => by cases e⟩
/-- v is a thing apart from the dice -/
def Apart (d : Addr) (H : Hp) (v : V) : Prop := Thing H v ∧ v ≠ .ref d
theorem Apart.keep {d : Addr} {H H' : Hp} {v : V} (h : Apart d H v) (k : KpT d H H') : Apart d H' v := by
  obtain ⟨h, n⟩ := h
  refine ⟨?_, n⟩
  have go : ∀ {a : Addr} {o : HO}, V.ref a ≠ .ref d → H a = some o → (∀ ps, o ≠ .tbl ps) → H' a = some o := fun n e t => k.2 _ _ e (fun z => n (by rw [z])) t
  cases h with
  | non => exact .non
  | bl b => exact .bl b
  | int i => exact .int i
  | str h => exact .str h
  | tup e => exact .tup (go n e fun _ z => by cases z)
  | lst e => exact .lst (go n e fun _ z => by cases z)
  | dk e => exact .dk (go n e fun _ z => by cases z)
end My
/-! ### d.get(text) where d is a dict of the module; more rules by a written K -/
namespace Lk
open PySem PySem.Spec PyProof.Rows L2 StX
theorem _root_.L2.Room.units65 {k : Nat} {A : Around} (r : Room k A) : A.units + 65 < cLine := by have := r.un; omega
theorem _root_.L2.Room.units1 {k : Nat} {A : Around} (r : Room k A) : A.units + 1 < cLine := by have := r.un; omega
/-- the module's dict at a, its keys texts: what it gives -/
def KMap (K : PySem.W.Frag) (w : World) (a : Addr) (f : Str → Option V) : Prop :=
  ∃ es n, K.lookup a = some ⟨.type "dict", none, .dict es n, #[]⟩ ∧ PySem.W.KeysLit w.params es.toList ∧ (a == sysModules) = false ∧ ∀ x, RelO (f x) (findBy Value.isStrOf es x)
def tKGet (K : PySem.W.Frag) (w : World) (td ty : TE) : TE := fun σ H Q => td σ H fun x H1 => ∃ a f, x = .ref a ∧ KMap K w a f ∧ ty σ H1 fun y H2 => ∃ z, y = .str z ∧ Q ((f z).getD .non) H2
section
variable {X : Cx} {K : PySem.W.Frag} {o e : Expr} {apos cpos : Pos} {td ty : TE} {w : World}
theorem pe_kget (ho : PE X o td) (he : PE X e ty) (m : M1 X o "get" apos e cpos) (hK : X.K = K := by rfl) (hw : X.w = w := by rfl) : PE X (.Call (.Attribute o "get" apos) [e] [] cpos) (tKGet K w td ty) := by
  subst hK
  subst hw
  refine ⟨fun pins s σ H Q I h => wpAny_Call_method m.base m.few m.line PySem.F.plainAttrs_dict PySem.F.slot_dict_get PySem.F.type_dict_get (thn (ho.run pins s σ H _ I h) ?_)⟩
  rintro u s1 ⟨x, H1, I1, rx, a, f, rfl, ⟨es, n, hl, hk, low, hf⟩, q1⟩
  obtain rfl : u = Value.ref a := rx
  have hm := PySem.W.mapOf_K (prog := X.prog) (w := X.w) I1.kIn hl hk
  refine ⟨hm.typeIs, hm.noDict, ?_⟩
  rw [m.trees]
  refine Calls.callWith_builtin rfl (Calls.evalArgs_plain (Calls.spliced_cons (thn (he.run pins s1 σ H1 _ I1 q1) ?_)))
  rintro iv s2 ⟨y, H2, I2, ry, z, rfl, q2⟩
  obtain ⟨t, rfl⟩ := ry
  have hm2 := PySem.W.mapOf_K (prog := X.prog) (w := X.w) I2.kIn hl hk
  refine Calls.spliced_nil (call_meetsIn PySem.F.slot_dict_get hm2.typeIs PySem.F.entry_dict_get (PySem.F.args_dict_get_2 _ _) (meets_dict_get (strKind X.prog X.w) a (strKind_is X.prog X.w z t) low) ⟨_, hm2, ?_⟩)
  exact ⟨_, H2, I2.tok _, (hf z).getD (d := V.non) (d' := Value.none) rfl, q2⟩
/-- len of a list, a tuple or a text -/
def rLenA (K : PySem.W.Frag) : List V → Hp → VK → Prop := fun xs H Q => Evl.rLenS K xs H Q ∨ ∃ z, xs = [.str z] ∧ z.length ≤ sizeLine ∧ Q (.int z.length) H
theorem len_anyK (hK : X.K = K := by rfl) : CallR X (.builtin "len") (rLenA K) := by
  intro pins s σ H xs us Q I r h
  rcases h with h | h
  · exact len_seqK hK pins s σ H xs us Q I r h
  · exact call_len_str pins s σ H xs us Q I r h
theorem splitK : MtR X "str.split" (fun x xs H Q => ∃ a b, x = .str a ∧ xs = [.str b] ∧ (b.length == 0) = false ∧ a.length + 2 ≤ sizeLine ∧ rNewStrs (Txt.split a b) H Q) := mt_split
theorem indexDK (hu : X.A.units + 65 < cLine) (hK : X.K = K := by rfl) : MtR X "list.index" (rIndexD K) := hK ▸ mt_indexD hu
theorem inDK (hu : X.A.units + 65 < cLine) (hK : X.K = K := by rfl) : OpR X (compareOp .In) (rInD K) := hK ▸ op_inD hu
theorem pa_starK {es : List Expr} {te : TE} {t : TA} {p : Pos} (he : PE X e te) (hr : PA X es t) (hs : starEach (.Starred e p :: es) X.env = (true, eval e X.env) :: starEach es X.env := by rfl) (hK : X.K = K := by rfl) : PA X (.Starred e p :: es) (tStar K te t) := hK ▸ pa_star he hr hs
/-- repr of data, whatever its kind -/
def rReprA (K : PySem.W.Frag) : List V → Hp → VK → Prop := fun xs H Q => ∃ (v : V) (d : PyData), xs = [v] ∧ Dp K H v d ∧ d.showable = true ∧ d.hasDict = false ∧ d.depth ≤ 60 ∧ d.shown.length ≤ sizeLine ∧ Q (.str d.shown) H
theorem reprAK (hu : X.A.units + 64 < cLine) (hg : X.A.guards = some []) (hK : X.K = K := by rfl) : CallR X (.builtin "repr") (rReprA K) := by
  subst hK
  intro pins s σ H xs us Q I r h
  obtain ⟨v, d, rfl, hd, h1, h2, h3, h4, q⟩ := h
  have big : ∀ a : Addr, v = .ref a → wpAny (model X.prog X.w) X.A (call (.builtin "repr") us) (EP X pins σ Q) X.xe s := by
    rintro a rfl
    exact call_reprD hu hg pins s σ H _ us Q I r ⟨a, d, rfl, hd, h1, h2, h3, h4, q⟩
  cases hd with
  | non => exact call_reprS pins s σ H _ us Q I r (.inr (.inl ⟨rfl, q⟩))
  | bl b => exact call_reprS pins s σ H _ us Q I r (.inl ⟨b, rfl, q⟩)
  | int i => exact call_reprS pins s σ H _ us Q I r (.inr (.inr (.inr ⟨i, rfl, of_decide_eq_true h1, q⟩)))
  | str z => exact call_reprS pins s σ H _ us Q I r (.inr (.inr (.inl ⟨z, rfl, h4, q⟩)))
  | lst _ _ => exact big _ rfl
  | tup _ _ => exact big _ rfl
end
end Lk
/-! ### the pure layer: values without addresses -/
namespace Pu
open PySem PySem.Spec PyProof.Rows L2 Lk Evl

/-- a value of the program, all that it holds written out -/
inductive D where
  | non | bl (b : Bool) | int (i : Int) | str (x : Str) | ty (n : String) | cls (C : Str)
  /-- lst: a list that is tracked; sl: one that is but read (the script) -/
  | tup (ds : List D) | lst (ds : List D) | sl (ds : List D) | dct (ks vs : List D) | obj (C : Str) (ns : List Str) (vs : List D)
  /-- an exception that is caught, at a, its dict -/
  | exc (a : Addr) (C : Str) (dx : Option Addr) (ns : List Str) (vs : List D)

/-- what a law's text fixes -/
structure Gx where
  K : PySem.W.Frag
  cl : Str → Addr
  /-- is a class of exceptions caught by another one -/
  sub : Str → Str → Option Bool
  /-- the tables of code objects of defs that make lambdas -/
  tabs : List (Addr × Str)
  hsub : ∀ C D b, sub C D = some b → PySem.W.exmOne K (.ref (cl C)) (.ref (cl D)) = some b

/-- no table -/
def NoT (o : HO) : Prop := ∀ ps, o ≠ .tbl ps
theorem noT_lst {xs : List V} : NoT (.lst xs) := fun _ z => by cases z
/-- the heap without the cells that are owned, without tables -/
def Fz (M : List Addr) (H : Hp) : Hp := fun b => if b ∈ M then none else match H b with
  | some (.tbl _) => none
  | o => o
theorem fz_of3 {M : List Addr} {H : Hp} {b : Addr} {o : HO} (h : Fz M H b = some o) : b ∉ M ∧ H b = some o ∧ NoT o := by
  unfold Fz at h
  by_cases hb : b ∈ M
  · rw [if_pos hb] at h; cases h
  · rw [if_neg hb] at h
    split at h
    · cases h
    · rename_i n
      exact ⟨hb, h, fun ps z => n ps (by rw [h, z])⟩
theorem fz_of {M : List Addr} {H : Hp} {b : Addr} {o : HO} (h : Fz M H b = some o) : b ∉ M ∧ H b = some o := ⟨(fz_of3 h).1, (fz_of3 h).2.1⟩
theorem fz_no {M : List Addr} {H : Hp} {b : Addr} {o : HO} (h : Fz M H b = some o) : NoT o := (fz_of3 h).2.2
theorem fz_in {M : List Addr} {H : Hp} {b : Addr} {o : HO} (hb : b ∉ M) (h : H b = some o) (ht : NoT o := by intro _ z; cases z) : Fz M H b = some o := by
  unfold Fz
  rw [if_neg hb, h]
  split
  · rename_i ps e
    exact absurd (Option.some.inj e) (ht _)
  · rfl
theorem fz_ex (M : List Addr) (H : Hp) : Ex (Fz M H) H := fun b o h => (fz_of h).2
theorem fz_anti {M M' : List Addr} {H : Hp} (h : ∀ a ∈ M, a ∈ M') : Ex (Fz M' H) (Fz M H) := fun b o e =>
  let ⟨n, q, t⟩ := fz_of3 e; fz_in (fun z => n (h b z)) q t

/-- a dict at a: its keys and values in order (further kinds: later files) -/
def DctAt (G : Gx) (H : Hp) (a : Addr) (ks vs : List V) : Prop :=
  ∃ kvs : List (Key × V), Rd H a (.dK kvs) ∧ ks = kvs.map (fun p => kV p.1) ∧ vs = kvs.map (·.2)
theorem rd_ex {H H' : Hp} {a : Addr} {u : HO} (e : Ex H H') (h : Rd H a u) : Rd H' a u := by
  rcases h with h | ⟨o, h⟩
  · exact .inl (e _ _ h)
  · exact .inr ⟨o, e _ _ h⟩
theorem DctAt.ex {G : Gx} {H H' : Hp} {a : Addr} {ks vs : List V} (e : Ex H H') (h : DctAt G H a ks vs) : DctAt G H' a ks vs := by
  obtain ⟨kvs, h1, h2, h3⟩ := h
  exact ⟨kvs, rd_ex e h1, h2, h3⟩
theorem sqL_ex {K : PySem.W.Frag} {H H' : Hp} {a : Addr} {xs : List V} (e : Ex H H') (h : SqL K H a xs) : SqL K H' a xs := by
  rcases h with h | h
  · exact .inl (rd_ex e h)
  · exact .inr h
theorem sqT_ex {K : PySem.W.Frag} {H H' : Hp} {a : Addr} {xs : List V} (e : Ex H H') (h : SqT K H a xs) : SqT K H' a xs := by
  rcases h with h | h
  · exact .inl (rd_ex e h)
  · exact .inr h

mutual
/-- v is the value d in H -/
inductive R (G : Gx) (H : Hp) : V → D → Prop
  | non : R G H .non .non
  | bl (b : Bool) : R G H (.bl b) (.bl b)
  | int (i : Int) : R G H (.int i) (.int i)
  | str (x : Str) : R G H (.str x) (.str x)
  | ty (n : String) : R G H (.ty n) (.ty n)
  | cls (C : Str) : R G H (.ref (G.cl C)) (.cls C)
  | tup {a : Addr} {xs : List V} {ds : List D} : SqT G.K H a xs → RAll G H xs ds → R G H (.ref a) (.tup ds)
  | lst {a : Addr} {xs : List V} {ds : List D} : H a = some (.lst xs) → RAll G H xs ds → R G H (.ref a) (.lst ds)
  | sl {a : Addr} {xs : List V} {ds : List D} : SqL G.K H a xs → RAll G H xs ds → R G H (.ref a) (.sl ds)
  | dct {a : Addr} {xs ys : List V} {ks vs : List D} : DctAt G H a xs ys → RAll G H xs ks → RAll G H ys vs → R G H (.ref a) (.dct ks vs)
  | obj {a dx : Addr} {C : Str} {fs : List (Str × V)} {ns : List Str} {ds : List D} : H a = some (.ins (G.cl C) dx fs) → fs.map (·.1) = ns → RAll G H (fs.map (·.2)) ds → R G H (.ref a) (.obj C ns ds)
  | exc0 (a : Addr) (C : Str) : R G H (.ref a) (.exc a C none [] [])
  | exc1 {a d : Addr} {C : Str} {fs : List (Str × V)} {ns : List Str} {ds : List D} : H d = some (.xd fs) → fs.map (·.1) = ns → RAll G H (fs.map (·.2)) ds → R G H (.ref a) (.exc a C (some d) ns ds)
inductive RAll (G : Gx) (H : Hp) : List V → List D → Prop
  | nil : RAll G H [] []
  | cons {v : V} {vs : List V} {d : D} {ds : List D} : R G H v d → RAll G H vs ds → RAll G H (v :: vs) (d :: ds)
end
section
variable {G : Gx} {H H' : Hp}
mutual
theorem R.ex (e : Ex H H') : ∀ {v : V} {d : D}, R G H v d → R G H' v d
  | _, _, .non => .non
  | _, _, .bl b => .bl b
  | _, _, .int i => .int i
  | _, _, .str x => .str x
  | _, _, .ty n => .ty n
  | _, _, .cls C => .cls C
  | _, _, .tup h t => .tup (sqT_ex e h) (RAll.ex e t)
  | _, _, .lst h t => .lst (e _ _ h) (RAll.ex e t)
  | _, _, .sl h t => .sl (sqL_ex e h) (RAll.ex e t)
  | _, _, .dct h t u => .dct (h.ex e) (RAll.ex e t) (RAll.ex e u)
  | _, _, .obj h n t => .obj (e _ _ h) n (RAll.ex e t)
  | _, _, .exc0 a C => .exc0 a C
  | _, _, .exc1 h n t => .exc1 (e _ _ h) n (RAll.ex e t)
theorem RAll.ex (e : Ex H H') : ∀ {vs : List V} {ds : List D}, RAll G H vs ds → RAll G H' vs ds
  | _, _, .nil => .nil
  | _, _, .cons h t => .cons (R.ex e h) (RAll.ex e t)
end
theorem RAll.len : ∀ {vs : List V} {ds : List D}, RAll G H vs ds → vs.length = ds.length
  | _, _, .nil => rfl
  | _, _, .cons _ t => by rw [List.length_cons, List.length_cons, t.len]
theorem RAll.get : ∀ {vs : List V} {ds : List D} {i : Nat} {d : D}, RAll G H vs ds → ds[i]? = some d → ∃ v, vs[i]? = some v ∧ R G H v d
  | _, _, _, _, .nil, h => by simp at h
  | _, _, 0, d, .cons h _, e => by simp at e; subst e; exact ⟨_, rfl, h⟩
  | _, _, i + 1, d, .cons _ t, e => by
    obtain ⟨v, h1, h2⟩ := RAll.get (i := i) (d := d) t (by simpa using e)
    exact ⟨v, by simpa using h1, h2⟩
theorem RAll.get' : ∀ {vs : List V} {ds : List D} {i : Nat} {v : V}, RAll G H vs ds → vs[i]? = some v → ∃ d, ds[i]? = some d ∧ R G H v d
  | _, _, _, _, .nil, h => by simp at h
  | _, _, 0, v, .cons h _, e => by simp at e; subst e; exact ⟨_, rfl, h⟩
  | _, _, i + 1, v, .cons _ t, e => by
    obtain ⟨d, h1, h2⟩ := RAll.get' (i := i) (v := v) t (by simpa using e)
    exact ⟨d, by simpa using h1, h2⟩
theorem RAll.app : ∀ {vs us : List V} {ds es : List D}, RAll G H vs ds → RAll G H us es → RAll G H (vs ++ us) (ds ++ es)
  | _, _, _, _, .nil, u => u
  | _, _, _, _, .cons h t, u => .cons h (t.app u)
theorem RAll.take : ∀ {vs : List V} {ds : List D} (n : Nat), RAll G H vs ds → RAll G H (vs.take n) (ds.take n)
  | _, _, 0, _ => .nil
  | _, _, _ + 1, .nil => .nil
  | _, _, n + 1, .cons h t => .cons h (t.take n)
theorem RAll.drop : ∀ {vs : List V} {ds : List D} (n : Nat), RAll G H vs ds → RAll G H (vs.drop n) (ds.drop n)
  | _, _, 0, t => t
  | _, _, _ + 1, .nil => .nil
  | _, _, n + 1, .cons h t => t.drop n
theorem RAll.set {v : V} {d : D} (h : R G H v d) : ∀ {vs : List V} {ds : List D} (n : Nat), RAll G H vs ds → RAll G H (vs.set n v) (ds.set n d)
  | _, _, _, .nil => .nil
  | _, _, 0, .cons _ t => .cons h t
  | _, _, n + 1, .cons a t => .cons a (t.set h n)
theorem RAll.rev {vs : List V} {ds : List D} (t : RAll G H vs ds) : RAll G H vs.reverse ds.reverse := by
  induction vs generalizing ds with
  | nil => cases t; exact .nil
  | cons v vs ih =>
    cases t with
    | cons h t => rw [List.reverse_cons, List.reverse_cons]; exact (ih t).app (.cons h .nil)
theorem RAll.of_get : ∀ {vs : List V} {ds : List D}, vs.length = ds.length → (∀ (i : Nat) (v : V) (d : D), vs[i]? = some v → ds[i]? = some d → R G H v d) → RAll G H vs ds
  | [], [], _, _ => .nil
  | [], _ :: _, h, _ => by simp at h
  | _ :: _, [], h, _ => by simp at h
  | v :: vs, d :: ds, h, f => .cons (f 0 v d rfl rfl) (RAll.of_get (by simpa using h) fun i v d e1 e2 => f (i + 1) v d (by simpa using e1) (by simpa using e2))
/-- a text, a list of texts: told by the values alone -/
theorem R.str_inv {v : V} {x : Str} (h : R G H v (.str x)) : v = .str x := by cases h; rfl
theorem R.int_inv {v : V} {i : Int} (h : R G H v (.int i)) : v = .int i := by cases h; rfl
theorem R.bl_inv {v : V} {b : Bool} (h : R G H v (.bl b)) : v = .bl b := by cases h; rfl
theorem R.non_inv {v : V} (h : R G H v .non) : v = .non := by cases h; rfl
theorem R.tup_inv {v : V} {ds : List D} (h : R G H v (.tup ds)) : ∃ a xs, v = .ref a ∧ SqT G.K H a xs ∧ RAll G H xs ds := by cases h with | tup a b => exact ⟨_, _, rfl, a, b⟩
theorem R.lst_inv {v : V} {ds : List D} (h : R G H v (.lst ds)) : ∃ a xs, v = .ref a ∧ H a = some (.lst xs) ∧ RAll G H xs ds := by cases h with | lst a b => exact ⟨_, _, rfl, a, b⟩
theorem R.sl_inv {v : V} {ds : List D} (h : R G H v (.sl ds)) : ∃ a xs, v = .ref a ∧ SqL G.K H a xs ∧ RAll G H xs ds := by cases h with | sl a b => exact ⟨_, _, rfl, a, b⟩
theorem RAll.strs_inv : ∀ {xs : List Str} {vs : List V}, RAll G H vs (xs.map D.str) → vs = xs.map V.str
  | [], _, t => by cases t; rfl
  | x :: xs, _, t => by
    rw [List.map_cons] at t
    cases t with | cons h t => rw [h.str_inv, t.strs_inv]; rfl
theorem RAll.ints_inv : ∀ {xs : List Int} {vs : List V}, RAll G H vs (xs.map D.int) → vs = xs.map V.int
  | [], _, t => by cases t; rfl
  | x :: xs, _, t => by
    rw [List.map_cons] at t
    cases t with | cons h t => rw [h.int_inv, t.ints_inv]; rfl
theorem RAll.bls_inv : ∀ {xs : List Bool} {vs : List V}, RAll G H vs (xs.map D.bl) → vs = xs.map V.bl
  | [], _, t => by cases t; rfl
  | x :: xs, _, t => by
    rw [List.map_cons] at t
    cases t with | cons h t => rw [h.bl_inv, t.bls_inv]; rfl
theorem RAll.of_strs : ∀ (xs : List Str), RAll G H (xs.map V.str) (xs.map D.str)
  | [] => .nil
  | x :: xs => .cons (.str x) (RAll.of_strs xs)
theorem RAll.of_ints : ∀ (xs : List Int), RAll G H (xs.map V.int) (xs.map D.int)
  | [] => .nil
  | x :: xs => .cons (.int x) (RAll.of_ints xs)
theorem RAll.of_bls : ∀ (xs : List Bool), RAll G H (xs.map V.bl) (xs.map D.bl)
  | [] => .nil
  | x :: xs => .cons (.bl x) (RAll.of_bls xs)
end
/-- no address in it -/
def D.flat : D → Bool
  | .non | .bl _ | .int _ | .str _ | .ty _ | .cls _ => true
  | _ => false
theorem R.flat {G : Gx} {H H' : Hp} {v : V} {d : D} (h : R G H v d) (f : d.flat = true) : R G H' v d := by
  cases h <;> first | (constructor; done) | cases f

/-! ### plain data -/
mutual
def D.py : D → Option PyData
  | .non => some .none
  | .bl b => some (.bool b)
  | .int i => some (.int i)
  | .str x => some (.str x)
  | .tup ds => (D.pys ds).map .tuple
  | .lst ds => (D.pys ds).map .list
  | _ => none
def D.pys : List D → Option (List PyData)
  | [] => some []
  | d :: ds => match d.py, D.pys ds with
    | some p, some ps => some (p :: ps)
    | _, _ => none
end
mutual
theorem R.dp {G : Gx} {H : Hp} : ∀ (d : D) {v : V} {p : PyData}, R G H v d → d.py = some p → Dp G.K H v p
  | .non, _, _, h, e => by
    simp only [D.py, Option.some.injEq] at e; subst e; cases h; exact .non
  | .bl b, _, _, h, e => by
    simp only [D.py, Option.some.injEq] at e; subst e; cases h; exact .bl b
  | .int b, _, _, h, e => by
    simp only [D.py, Option.some.injEq] at e; subst e; cases h; exact .int b
  | .str b, _, _, h, e => by
    simp only [D.py, Option.some.injEq] at e; subst e; cases h; exact .str b
  | .ty _, _, _, _, e => by simp only [D.py, reduceCtorEq] at e
  | .cls _, _, _, _, e => by simp only [D.py, reduceCtorEq] at e
  | .dct _ _, _, _, _, e => by simp only [D.py, reduceCtorEq] at e
  | .sl _, _, _, _, e => by simp only [D.py, reduceCtorEq] at e
  | .obj _ _ _, _, _, _, e => by simp only [D.py, reduceCtorEq] at e
  | .exc _ _ _ _ _, _, _, _, e => by simp only [D.py, reduceCtorEq] at e
  | .tup ds, _, _, h, e => by
    simp only [D.py] at e
    obtain ⟨ps, e2, rfl⟩ := Option.map_eq_some_iff.mp e
    cases h with | tup hs t => exact .tup hs (RAll.dp ds t e2)
  | .lst ds, _, _, h, e => by
    simp only [D.py] at e
    obtain ⟨ps, e2, rfl⟩ := Option.map_eq_some_iff.mp e
    cases h with | lst hs t => exact .lst (SqL.of hs) (RAll.dp ds t e2)
theorem RAll.dp {G : Gx} {H : Hp} : ∀ (ds : List D) {vs : List V} {ps : List PyData}, RAll G H vs ds → D.pys ds = some ps → DpAll G.K H vs ps
  | [], _, _, h, e => by
    simp only [D.pys, Option.some.injEq] at e; subst e; cases h; exact .nil
  | d :: ds, _, ps, h, e => by
    rw [D.pys] at e
    cases e1 : d.py with
    | none => rw [e1] at e; cases e
    | some p =>
      cases e2 : D.pys ds with
      | none => rw [e1, e2] at e; cases e
      | some q =>
        rw [e1, e2] at e
        cases e
        cases h with | cons a t => exact .cons (R.dp d a e1) (RAll.dp ds t e2)
end

/-! ### the slots -/
/-- a slot: nothing known, a value, a container of one's own -/
inductive Cell where
  | un | fz (d : D) | ow (d : D)
abbrev Env := List Cell
/-- what stands at a cell that is owned -/
def Own (G : Gx) (M : List Addr) (H : Hp) (a : Addr) : D → Prop
  | .lst ds => ∃ xs, H a = some (.lst xs) ∧ RAll G (Fz M H) xs ds
  | .dct ks vs => ∃ kvs : List (Key × V), H a = some (.dK kvs) ∧ RAll G (Fz M H) (kvs.map (fun p => kV p.1)) ks ∧ RAll G (Fz M H) (kvs.map (·.2)) vs
  | .obj C ns ds => ∃ dx fs, H a = some (.ins (G.cl C) dx fs) ∧ fs.map (·.1) = ns ∧ RAll G (Fz M H) (fs.map (·.2)) ds
  | _ => False
structure Rep (G : Gx) (M : List Addr) (ρ : Env) (σ : L2.St) (H : Hp) : Prop where
  len : ρ.length = σ.length
  fz : ∀ (i : Nat) (d : D), ρ[i]? = some (.fz d) → ∃ v, σ[i]? = some (some v) ∧ R G (Fz M H) v d
  ow : ∀ (i : Nat) (d : D), ρ[i]? = some (.ow d) → ∃ a, σ[i]? = some (some (.ref a)) ∧ a ∈ M ∧ Own G M H a d
  inj : ∀ (i j : Nat) (a : Addr) (d d' : D), ρ[i]? = some (.ow d) → ρ[j]? = some (.ow d') → σ[i]? = some (some (.ref a)) → σ[j]? = some (some (.ref a)) → i = j
  trk : ∀ a ∈ M, ∃ o, H a = some o ∧ (NoT o ∨ ∃ p ∈ G.tabs, p.1 = a)
  tab : LamX.Tabs G.tabs H
  tm : ∀ p ∈ G.tabs, p.1 ∈ M
/-- the owned cells that are seen -/
def Seen (ρ : Env) (σ : L2.St) (a : Addr) : Prop := ∃ (i : Nat) (d : D), ρ[i]? = some (.ow d) ∧ σ[i]? = some (some (.ref a))
/-- all but these stays -/
def Keep (S : Addr → Prop) (H H' : Hp) : Prop := ∀ b o, H b = some o → ¬ S b → NoT o → H' b = some o
theorem Keep.of_ex {S : Addr → Prop} {H H' : Hp} (e : Ex H H') : Keep S H H' := fun b o h _ _ => e b o h
theorem Keep.trans {S : Addr → Prop} {H H1 H2 : Hp} (a : Keep S H H1) (b : Keep S H1 H2) : Keep S H H2 := fun c o h n t => b c o (a c o h n t) n t
/-- the owned cells alone may have turned -/
def Kin (ρ ρ' : Env) : Prop := ∀ i : Nat, ρ'[i]? = ρ[i]? ∨ ∃ d d', ρ[i]? = some (.ow d) ∧ ρ'[i]? = some (.ow d')
theorem Kin.refl (ρ : Env) : Kin ρ ρ := fun _ => .inl rfl
theorem Kin.trans {ρ ρ1 ρ2 : Env} (a : Kin ρ ρ1) (b : Kin ρ1 ρ2) : Kin ρ ρ2 := fun i => by
  rcases a i with h | ⟨d, d', h1, h2⟩
  · rcases b i with k | ⟨e, e', k1, k2⟩
    · exact .inl (k.trans h)
    · exact .inr ⟨e, e', by rw [← h]; exact k1, k2⟩
  · rcases b i with k | ⟨e, e', k1, k2⟩
    · exact .inr ⟨d, d', h1, k.trans h2⟩
    · exact .inr ⟨d, e', h1, k2⟩
theorem Kin.seen {ρ ρ' : Env} {σ : L2.St} {a : Addr} (k : Kin ρ ρ') : Seen ρ' σ a ↔ Seen ρ σ a := by
  constructor
  · rintro ⟨i, d, h1, h2⟩
    rcases k i with h | ⟨e, e', k1, k2⟩
    · exact ⟨i, d, by rw [← h]; exact h1, h2⟩
    · exact ⟨i, e, k1, h2⟩
  · rintro ⟨i, d, h1, h2⟩
    rcases k i with h | ⟨e, e', k1, k2⟩
    · exact ⟨i, d, by rw [h]; exact h1, h2⟩
    · exact ⟨i, e', k2, h2⟩
theorem Kin.ow {ρ ρ' : Env} (k : Kin ρ ρ') (i : Nat) : (∃ d, ρ'[i]? = some (.ow d)) ↔ ∃ d, ρ[i]? = some (.ow d) := by
  rcases k i with h | ⟨e, e', k1, k2⟩
  · rw [h]
  · exact ⟨fun _ => ⟨e, k1⟩, fun _ => ⟨e', k2⟩⟩
structure Go (G : Gx) (M : List Addr) (σ : L2.St) (ρ : Env) (H : Hp) (ρ' : Env) (H' : Hp) : Prop where
  rep : Rep G M ρ' σ H'
  kin : Kin ρ ρ'
  kp : Keep (Seen ρ σ) H H'
section
variable {G : Gx} {M : List Addr} {σ : L2.St} {ρ ρ1 ρ2 : Env} {H H1 H2 : Hp}
theorem Rep.seenM (r : Rep G M ρ σ H) {a : Addr} (h : Seen ρ σ a) : a ∈ M := by
  obtain ⟨i, d, h1, h2⟩ := h
  obtain ⟨b, e, m, _⟩ := r.ow i d h1
  rw [h2] at e
  cases e
  exact m
theorem Go.refl (r : Rep G M ρ σ H) : Go G M σ ρ H ρ H := ⟨r, .refl _, fun _ _ h _ _ => h⟩
theorem Go.trans (a : Go G M σ ρ H ρ1 H1) (b : Go G M σ ρ1 H1 ρ2 H2) : Go G M σ ρ H ρ2 H2 :=
  ⟨b.rep, a.kin.trans b.kin, fun c o h n t => b.kp c o (a.kp c o h n t) (fun z => n (a.kin.seen.mp z)) t⟩
theorem Go.fz (r : Rep G M ρ σ H) (a : Go G M σ ρ H ρ1 H1) : Ex (Fz M H) (Fz M H1) := fun b o h => by
  obtain ⟨n, e, t⟩ := fz_of3 h
  exact fz_in n (a.kp b o e (fun z => n (r.seenM z)) t) t
theorem Own.ex {a : Addr} {d : D} (e : Ex H H1) (h : Own G M H a d) : Own G M H1 a d := by
  have e2 : Ex (Fz M H) (Fz M H1) := fun b o h => let ⟨n, k, t⟩ := fz_of3 h; fz_in n (e b o k) t
  cases d <;> first | exact h.elim | skip
  · obtain ⟨xs, h1, h2⟩ := h; exact ⟨xs, e _ _ h1, h2.ex e2⟩
  · obtain ⟨kvs, h1, h2, h3⟩ := h; exact ⟨kvs, e _ _ h1, h2.ex e2, h3.ex e2⟩
  · obtain ⟨dx, fs, h1, h2, h3⟩ := h; exact ⟨dx, fs, e _ _ h1, h2, h3.ex e2⟩
theorem Rep.ex (r : Rep G M ρ σ H) (e : Ex H H1) : Rep G M ρ σ H1 := by
  have e2 : Ex (Fz M H) (Fz M H1) := fun b o h => let ⟨n, k, t⟩ := fz_of3 h; fz_in n (e b o k) t
  refine ⟨r.len, fun i d h => ?_, fun i d h => ?_, r.inj, fun a h => ?_, r.tab.ext e, r.tm⟩
  · obtain ⟨v, h1, h2⟩ := r.fz i d h; exact ⟨v, h1, h2.ex e2⟩
  · obtain ⟨a, h1, h2, h3⟩ := r.ow i d h; exact ⟨a, h1, h2, h3.ex e⟩
  · obtain ⟨o, h1, t⟩ := r.trk a h; exact ⟨o, e _ _ h1, t⟩
theorem Go.ex (r : Rep G M ρ σ H) (e : Ex H H1) : Go G M σ ρ H ρ H1 := ⟨r.ex e, .refl _, .of_ex e⟩
theorem Go.then_ex (a : Go G M σ ρ H ρ1 H1) (e : Ex H1 H2) : Go G M σ ρ H ρ1 H2 := a.trans (.ex a.rep e)
theorem fz_step (e : Ex H H1) : Ex (Fz M H) (Fz M H1) := fun b o h => let ⟨n, k, t⟩ := fz_of3 h; fz_in n (e b o k) t
theorem Rep.tr (r : Rep G M ρ σ H) : ∀ a ∈ M, ∃ o, H a = some o := fun a h => let ⟨o, e, _⟩ := r.trk a h; ⟨o, e⟩
/-- nothing but a table stood there -/
def New (H : Hp) (a : Addr) : Prop := ∀ o, H a = some o → ¬ NoT o
theorem New.of {H : Hp} {a : Addr} (h : H a = none) : New H a := fun o e => by rw [h] at e; cases e
theorem Own.pl {a : Addr} {d : D} (h : Own G M H a d) : ∃ o, H a = some o ∧ NoT o ∧ ∀ f, o ≠ .ext f := by
  cases d <;> first | exact h.elim | skip
  · obtain ⟨xs, h1, h2⟩ := h; exact ⟨_, h1, fun _ z => (nomatch z), fun _ z => nomatch z⟩
  · obtain ⟨kvs, h1, h2, h3⟩ := h; exact ⟨_, h1, fun _ z => (nomatch z), fun _ z => nomatch z⟩
  · obtain ⟨dx, fs, h1, h2, h3⟩ := h; exact ⟨_, h1, fun _ z => (nomatch z), fun _ z => nomatch z⟩
theorem Own.noTab {a : Addr} {d : D} (h : Own G M H a d) (t : LamX.Tabs G.tabs H) : ¬ ∃ p ∈ G.tabs, p.1 = a := by
  rintro ⟨p, hp, rfl⟩
  obtain ⟨ps, e, _⟩ := t p hp
  obtain ⟨o, e1, n, _⟩ := h.pl
  rw [e] at e1
  exact n ps (Option.some.inj e1).symm
/-- the tables stay while what is no table and no code object turns -/
theorem tabs_upd {T : List (Addr × Str)} {l : Addr} {o o0 : HO} (t : LamX.Tabs T H) (h0 : H l = some o0) (n1 : NoT o0) (n2 : ∀ f, o0 ≠ .ext f) : LamX.Tabs T (upd H l o) := fun p hp => by
  obtain ⟨ps, e1, e2, e3⟩ := t p hp
  refine ⟨ps, by rw [upd_ne (fun z => by rw [z, h0] at e1; exact n1 ps (Option.some.inj e1))]; exact e1, e2, fun pos cv hc => ?_⟩
  obtain ⟨c, q1, q2⟩ := e3 pos cv hc
  exact ⟨c, q1, by rw [upd_ne (fun z => by rw [z, h0] at q2; unfold LamX.CodeO at q2; exact n2 _ (Option.some.inj q2))]; exact q2⟩
theorem Rep.new (r : Rep G M ρ σ H) {p : Addr} (h : H p = none) : p ∉ M := fun z => by
  obtain ⟨o, e, _⟩ := r.trk p z
  rw [h] at e; cases e
end

/-! ### what an expression gives -/
/-- a value; a container of one's own that stands in a slot -/
inductive Src where
  | val (d : D) | slot (i : Nat)
def Src.gets (s : Src) (ρ : Env) (k : D → Prop) : Prop := match s with
  | .val d => k d
  | .slot i => match ρ[i]? with
    | some (.ow d) => k d
    | _ => False
def RS (G : Gx) (M : List Addr) (ρ : Env) (σ : L2.St) (H : Hp) (v : V) : Src → Prop
  | .val d => R G (Fz M H) v d
  | .slot i => σ[i]? = some (some v) ∧ ∃ d, ρ[i]? = some (.ow d)
/-- v is d: a value, or a container that is owned -/
inductive Arg (G : Gx) (M : List Addr) (H : Hp) (v : V) (d : D) : Prop
  | fz (h : R G (Fz M H) v d)
  | ow (a : Addr) (e : v = .ref a) (m : a ∈ M) (h : Own G M H a d)
section
variable {G : Gx} {M : List Addr} {σ : L2.St} {ρ ρ1 : Env} {H H1 : Hp} {v : V} {d : D} {s : Src}
theorem RS.go (r : Rep G M ρ σ H) (g : Go G M σ ρ H ρ1 H1) (h : RS G M ρ σ H v s) : RS G M ρ1 σ H1 v s := by
  cases s with
  | val d => exact R.ex (g.fz r) h
  | slot i => exact ⟨h.1, (g.kin.ow i).mpr h.2⟩
theorem RS.arg {k : D → Prop} (r : Rep G M ρ σ H) (h : RS G M ρ σ H v s) (e : s.gets ρ k) : ∃ d, Arg G M H v d ∧ k d := by
  cases s with
  | val d => exact ⟨d, .fz h, e⟩
  | slot i =>
    obtain ⟨h1, d, h2⟩ := h
    unfold Src.gets at e
    simp only [h2] at e
    obtain ⟨a, e1, m, o⟩ := r.ow i d h2
    rw [h1] at e1
    cases e1
    exact ⟨d, .ow a rfl m o, e⟩
theorem Arg.full (h : Arg G M H v d) : R G H v d := by
  cases h with
  | fz h => exact h.ex (fz_ex _ _)
  | ow a e m h =>
    subst e
    cases d <;> first | exact h.elim | skip
    · obtain ⟨xs, h1, h2⟩ := h; exact .lst h1 (h2.ex (fz_ex _ _))
    · obtain ⟨kvs, h1, h2, h3⟩ := h; exact .dct ⟨kvs, .inl h1, rfl, rfl⟩ (h2.ex (fz_ex _ _)) (h3.ex (fz_ex _ _))
    · obtain ⟨dx, fs, h1, h2, h3⟩ := h; exact .obj h1 h2 (h3.ex (fz_ex _ _))
theorem Arg.flat (h : Arg G M H v d) (f : d.flat = true) : R G (Fz M H) v d := h.full.flat f
theorem Arg.lst {ds : List D} (h : Arg G M H v (.lst ds)) : ∃ a xs, v = .ref a ∧ H a = some (.lst xs) ∧ RAll G (Fz M H) xs ds := by
  cases h with
  | fz h => obtain ⟨a, xs, e, h1, h2⟩ := h.lst_inv; exact ⟨a, xs, e, fz_ex _ _ _ _ h1, h2⟩
  | ow a e m h => obtain ⟨xs, h1, h2⟩ := h; exact ⟨a, xs, e, h1, h2⟩
theorem Arg.sl {ds : List D} (h : Arg G M H v (.sl ds)) : ∃ a xs, v = .ref a ∧ SqL G.K H a xs ∧ RAll G (Fz M H) xs ds := by
  cases h with
  | fz h => obtain ⟨a, xs, e, h1, h2⟩ := h.sl_inv; exact ⟨a, xs, e, sqL_ex (fz_ex _ _) h1, h2⟩
  | ow a e m h => exact h.elim
theorem Arg.tup {ds : List D} (h : Arg G M H v (.tup ds)) : ∃ a xs, v = .ref a ∧ SqT G.K H a xs ∧ RAll G (Fz M H) xs ds ∧ R G (Fz M H) v (.tup ds) := by
  cases h with
  | fz h => obtain ⟨a, xs, e, h1, h2⟩ := h.tup_inv; exact ⟨a, xs, e, sqT_ex (fz_ex _ _) h1, h2, h⟩
  | ow a e m h => exact h.elim
theorem Arg.ex (h : Arg G M H v d) (e : Ex H H1) : Arg G M H1 v d := by
  cases h with
  | fz h => exact .fz (h.ex (fz_step e))
  | ow a e' m h => exact .ow a e' m (h.ex e)
theorem Arg.str {x : Str} (h : Arg G M H v (.str x)) : v = .str x := h.full.str_inv
theorem Arg.int {i : Int} (h : Arg G M H v (.int i)) : v = .int i := h.full.int_inv
theorem Arg.bl {b : Bool} (h : Arg G M H v (.bl b)) : v = .bl b := h.full.bl_inv
theorem Arg.non (h : Arg G M H v .non) : v = .non := h.full.non_inv
end
end Pu
/-! ### the pure layer: expressions -/
namespace Pu
open PySem PySem.Spec PyProof.Rows L2 Lk Evl
abbrev EQ := Str → List Str → List D → Env → Prop
abbrev WE := Env → (Src → Env → Prop) → EQ → Prop
abbrev WT := Env → (Bool → Env → Prop) → EQ → Prop
abbrev WA := Env → (List Src → Env → Prop) → EQ → Prop
/-- what an exception carries -/
def XdAt (G : Gx) (M : List Addr) (H : Hp) : Option Addr → List Str → List D → Prop
  | none, ns, vs => ns = [] ∧ vs = []
  | some a, ns, vs => ∃ fs : List (Str × V), Fz M H a = some (.xd fs) ∧ fs.map (·.1) = ns ∧ RAll G (Fz M H) (fs.map (·.2)) vs
/-- what is raised is wished for -/
def Thr (G : Gx) (M : List Addr) (W : WX) (σ : L2.St) (ρ : Env) (H : Hp) (eq : EQ) : Prop :=
  ∀ C ns vs ρ' dx H', Go G M σ ρ H ρ' H' → XdAt G M H' dx ns vs → eq C ns vs ρ' → W (.ref (G.cl C)) dx σ H'
theorem Thr.go {G : Gx} {M : List Addr} {W : WX} {σ : L2.St} {ρ ρ1 : Env} {H H1 : Hp} {eq : EQ} (h : Thr G M W σ ρ H eq) (g : Go G M σ ρ H ρ1 H1) : Thr G M W σ ρ1 H1 eq :=
  fun C ns vs ρ' dx H' g2 => h C ns vs ρ' dx H' (g.trans g2)
abbrev RSs (G : Gx) (M : List Addr) (ρ : Env) (σ : L2.St) (H : Hp) : List V → List Src → Prop := Paired (RS G M ρ σ H)
abbrev Args (G : Gx) (M : List Addr) (H : Hp) : List V → List D → Prop := Paired (Arg G M H)
def SE (G : Gx) (W : WX) (t : TE) (w : WE) : Prop := ∀ M ρ σ H q eq Q, Rep G M ρ σ H → w ρ q eq → (∀ s ρ' v H', Go G M σ ρ H ρ' H' → RS G M ρ' σ H' v s → q s ρ' → Q v H') → Thr G M W σ ρ H eq → t σ H Q
def STt (G : Gx) (W : WX) (t : TT) (w : WT) : Prop := ∀ M ρ σ H q eq Q, Rep G M ρ σ H → w ρ q eq → (∀ b ρ' H', Go G M σ ρ H ρ' H' → q b ρ' → Q b H') → Thr G M W σ ρ H eq → t σ H Q
def SA (G : Gx) (W : WX) (t : TA) (w : WA) : Prop := ∀ M ρ σ H q eq Q, Rep G M ρ σ H → w ρ q eq → (∀ ss ρ' vs H', Go G M σ ρ H ρ' H' → RSs G M ρ' σ H' vs ss → q ss ρ' → Q vs H') → Thr G M W σ ρ H eq → t σ H Q
structure PX (G : Gx) (X : Cx) (W : WX) (e : Expr) (w : WE) : Prop where
  ex : ∃ t, PE X e t ∧ SE G W t w
structure PXT (G : Gx) (X : Cx) (W : WX) (e : Expr) (w : WT) : Prop where
  ex : ∃ t, PT X e t ∧ STt G W t w
structure PXW (G : Gx) (X : Cx) (W : WX) (e : Expr) (w : WT) : Prop where
  ex : ∃ t, PW X e t ∧ STt G W t w
structure PXA (G : Gx) (X : Cx) (W : WX) (es : List Expr) (w : WA) : Prop where
  ex : ∃ t, PA X es t ∧ SA G W t w
abbrev Op2 := D → D → (D → Prop) → Prop
abbrev Op1 := D → (D → Prop) → Prop
abbrev OpN := List D → (D → Prop) → Prop
def Trk (M : List Addr) (H : Hp) : Prop := ∀ a ∈ M, ∃ o, H a = some o
theorem Trk.new {M : List Addr} {H : Hp} (r : Trk M H) {p : Addr} (h : H p = none) : p ∉ M := fun z => by
  obtain ⟨o, e⟩ := r p z
  rw [h] at e; cases e
/-- what an operator's rule asks is told by the pure one -/
def OpS (G : Gx) (op : Op2) (r : R2) : Prop := ∀ M H x y d1 d2 k, Trk M H → Arg G M H x d1 → Arg G M H y d2 → op d1 d2 k → ∀ Q : VK, (∀ d v H', Ex H H' → R G (Fz M H') v d → k d → Q v H') → r x y H Q
def UnS (G : Gx) (op : Op1) (r : V → Hp → VK → Prop) : Prop := ∀ M H x d1 k, Trk M H → Arg G M H x d1 → op d1 k → ∀ Q : VK, (∀ d v H', Ex H H' → R G (Fz M H') v d → k d → Q v H') → r x H Q
def CallS (G : Gx) (op : OpN) (r : List V → Hp → VK → Prop) : Prop := ∀ M H xs ds k, Trk M H → Args G M H xs ds → op ds k → ∀ Q : VK, (∀ d v H', Ex H H' → R G (Fz M H') v d → k d → Q v H') → r xs H Q
def MethS (G : Gx) (T : String) (op : D → OpN) (r : V → List V → Hp → VK → Prop) : Prop := ∀ M H x d xs ds k, Trk M H → Arg G M H x d → Args G M H xs ds → op d ds k → ∀ Q : VK, (∀ d v H', Ex H H' → R G (Fz M H') v d → k d → Q v H') → r x xs H Q
def gets2 (ρ : Env) : List Src → (List D → Prop) → Prop
  | [], k => k []
  | s :: ss, k => s.gets ρ fun d => gets2 ρ ss fun ds => k (d :: ds)
section
variable {G : Gx} {M : List Addr} {σ : L2.St} {ρ ρ1 : Env} {H H1 : Hp}
theorem RSs.go (r : Rep G M ρ σ H) (g : Go G M σ ρ H ρ1 H1) : ∀ {vs : List V} {ss : List Src}, RSs G M ρ σ H vs ss → RSs G M ρ1 σ H1 vs ss
  | _, _, .nil => .nil
  | _, _, .cons h t => .cons (h.go r g) (RSs.go r g t)
theorem RSs.args (r : Rep G M ρ σ H) : ∀ {vs : List V} {ss : List Src} {k : List D → Prop}, RSs G M ρ σ H vs ss → gets2 ρ ss k → ∃ ds, Args G M H vs ds ∧ k ds
  | _, _, _, .nil, h => ⟨[], .nil, h⟩
  | _, _, _, .cons a t, h => by
    obtain ⟨d, h1, h2⟩ := a.arg r h
    obtain ⟨ds, h3, h4⟩ := RSs.args r t h2
    exact ⟨d :: ds, .cons h1 h3, h4⟩
theorem Args.one {xs : List V} {d : D} (h : Args G M H xs [d]) : ∃ v, xs = [v] ∧ Arg G M H v d := by
  cases h with | cons a t => cases t; exact ⟨_, rfl, a⟩
theorem Args.two {xs : List V} {d e : D} (h : Args G M H xs [d, e]) : ∃ v u, xs = [v, u] ∧ Arg G M H v d ∧ Arg G M H u e := by
  cases h with | cons a t => cases t with | cons b t => cases t; exact ⟨_, _, rfl, a, b⟩
theorem Args.three {xs : List V} {d e f : D} (h : Args G M H xs [d, e, f]) : ∃ v u w, xs = [v, u, w] ∧ Arg G M H v d ∧ Arg G M H u e ∧ Arg G M H w f := by
  cases h with | cons a t => cases t with | cons b t => cases t with | cons c t => cases t; exact ⟨_, _, _, rfl, a, b, c⟩
end

/-! ### names, constants -/
def wC (d : D) : WE := fun ρ q _ => q (.val d) ρ
def wName (i : Nat) : WE := fun ρ q _ => match ρ[i]? with
  | some (.fz d) => q (.val d) ρ
  | some (.ow _) => q (.slot i) ρ
  | _ => False
section
variable {G : Gx} {X : Cx} {W : WX} {e a b c : Expr} {es rest : List Expr} {pos p p2 : Pos}
theorem px_c {v : V} {d : D} (h : PE X e (tC v)) (r : ∀ H, R G H v d) : PX G X W e (wC d) :=
  ⟨_, h, fun M ρ σ H q eq Q rp w k _ => k (.val d) ρ v H (.refl rp) (r _) w⟩
theorem px_int {i j} : PX G X W (.Constant (.int i) j pos) (wC (.int i)) := px_c pe_int fun _ => .int i
theorem px_bl {b j} : PX G X W (.Constant (.bool b) j pos) (wC (.bl b)) := px_c pe_bl fun _ => .bl b
theorem px_non {j} : PX G X W (.Constant .none j pos) (wC .non) := px_c pe_non fun _ => .non
theorem px_str {x j} : PX G X W (.Constant (.str x) j pos) (wC (.str x)) := px_c pe_str fun _ => .str x
theorem px_name (i : Nat) {x : Str} (hN : X.N[i]? = some x := by rfl) (hv : Vis X.env.scope x := by first | exact Or.inl rfl | exact Or.inr (Or.inl rfl) | exact Or.inr (Or.inr rfl)) (hd : (x == ("__debug__" : Str)) = false := by decide)
    (hcd : (x == ("__classdict__" : Str)) = false := by decide) : PX G X W (.Name x pos) (wName i) := by
  refine ⟨_, pv i hN hv hd hcd, fun M ρ σ H q eq Q rp w k _ => ?_⟩
  unfold wName at w
  split at w
  · rename_i d e
    obtain ⟨v, h1, h2⟩ := rp.fz i d e
    exact ⟨v, h1, k (.val d) ρ v H (.refl rp) h2 w⟩
  · rename_i d e
    obtain ⟨a, h1, h2, h3⟩ := rp.ow i d e
    exact ⟨_, h1, k (.slot i) ρ _ H (.refl rp) ⟨h1, d, e⟩ w⟩
  · exact w.elim
/-- a constant of the module -/
theorem px_glob {x : Str} {v : V} {u : Value} {d : D} (hg : Gl X x) (hm : X.mg x = some u) (r : RelV v u) (rd : ∀ H, R G H v d) (hd : (x == ("__debug__" : Str)) = false := by decide) : PX G X W (.Name x pos) (wC d) := px_c (pe_glob hg hm r hd) rd
theorem px_gstr {x z : Str} {t : Tok} (hg : Gl X x) (hm : X.mg x = some (.str z t)) (hd : (x == ("__debug__" : Str)) = false := by decide) : PX G X W (.Name x pos) (wC (.str z)) := px_glob (v := .str z) hg hm ⟨_, rfl⟩ (fun _ => .str z) hd
theorem px_gint {x : Str} {i : Int} {t : Tok} (hg : Gl X x) (hm : X.mg x = some (.int i t)) (hd : (x == ("__debug__" : Str)) = false := by decide) : PX G X W (.Name x pos) (wC (.int i)) := px_glob (v := .int i) hg hm ⟨_, rfl⟩ (fun _ => .int i) hd
theorem px_gcls {x C : Str} (hg : Gl X x) (hm : X.mg x = some (.ref (G.cl C))) (hd : (x == ("__debug__" : Str)) = false := by decide) : PX G X W (.Name x pos) (wC (.cls C)) := px_glob (v := .ref (G.cl C)) hg hm rfl (fun _ => .cls C) hd
theorem px_ty {x : Str} {n : String} (hg : Gl X x) (hm : X.mg x = none) (hv : bootBuiltins x = some (.type n)) (hn : x ≠ "__name__" := by decide) (hd : (x == ("__debug__" : Str)) = false := by decide) : PX G X W (.Name x pos) (wC (.ty n)) :=
  px_c (pe_bltn (v := .ty n) hg hm hv rfl hn hd) fun _ => .ty n

/-! ### operators -/
def wOp (op : Op2) (wa wb : WE) : WE := fun ρ q e => wa ρ (fun s1 ρ1 => wb ρ1 (fun s2 ρ2 => s1.gets ρ2 fun d1 => s2.gets ρ2 fun d2 => op d1 d2 fun d => q (.val d) ρ2) e) e
def wUn (op : Op1) (wa : WE) : WE := fun ρ q e => wa ρ (fun s1 ρ1 => s1.gets ρ1 fun d1 => op d1 fun d => q (.val d) ρ1) e
theorem se_op {ta tb : TE} {wa wb : WE} {r : R2} {op : Op2} (ha : SE G W ta wa) (hb : SE G W tb wb) (ho : OpS G op r) : SE G W (tOp r ta tb) (wOp op wa wb) := by
  intro M ρ σ H q eq Q rp w k th
  refine ha M ρ σ H _ eq _ rp w (fun s1 ρ1 x H1 g1 r1 w1 => ?_) th
  refine hb M ρ1 σ H1 _ eq _ g1.rep w1 (fun s2 ρ2 y H2 g2 r2 w2 => ?_) (th.go g1)
  obtain ⟨d1, a1, w3⟩ := (r1.go g1.rep g2).arg g2.rep w2
  obtain ⟨d2, a2, w4⟩ := r2.arg g2.rep w3
  exact ho M H2 x y d1 d2 _ g2.rep.tr a1 a2 w4 Q fun d v H' e rd kd => k (.val d) ρ2 v H' ((g1.trans g2).then_ex e) rd kd
theorem se_un {ta : TE} {wa : WE} {r : V → Hp → VK → Prop} {op : Op1} (ha : SE G W ta wa) (ho : UnS G op r) : SE G W (tUn r ta) (wUn op wa) := by
  intro M ρ σ H q eq Q rp w k th
  refine ha M ρ σ H _ eq _ rp w (fun s1 ρ1 x H1 g1 r1 w1 => ?_) th
  obtain ⟨d1, a1, w3⟩ := r1.arg g1.rep w1
  exact ho M H1 x d1 _ g1.rep.tr a1 w3 Q fun d v H' e rd kd => k (.val d) ρ1 v H' (g1.then_ex e) rd kd
theorem px_op {wa wb : WE} {f : Operator} {r : R2} {op : Op2} (hr : OpR X (binaryOp f) r) (ho : OpS G op r) (ha : PX G X W a wa) (hb : PX G X W b wb) : PX G X W (.BinOp a f b pos) (wOp op wa wb) := by
  obtain ⟨ta, pa, sa⟩ := ha
  obtain ⟨tb, pb, sb⟩ := hb
  exact ⟨_, pe_op hr pa pb, se_op sa sb ho⟩
theorem px_un {wa : WE} {f : UnaryOp} {r : V → Hp → VK → Prop} {op : Op1} (hr : UnR X (unaryOp f) r) (ho : UnS G op r) (ha : PX G X W a wa) : PX G X W (.UnaryOp f a pos) (wUn op wa) := by
  obtain ⟨ta, pa, sa⟩ := ha
  exact ⟨_, pe_un hr pa, se_un sa ho⟩
theorem px_cmp {wa wb : WE} {f : CmpOp} {r : R2} {op : Op2} (hr : OpR X (compareOp f) r) (ho : OpS G op r) (ha : PX G X W a wa) (hb : PX G X W b wb) (hm : behindInMarks f b = false) : PX G X W (.Compare a [f] [b] pos) (wOp op wa wb) := by
  obtain ⟨ta, pa, sa⟩ := ha
  obtain ⟨tb, pb, sb⟩ := hb
  exact ⟨_, pe_cmpR hr pa pb hm, se_op sa sb ho⟩
/-! ### tests -/
def dB (d : D) (k : Bool → Prop) : Prop := match d with
  | .bl b => k b
  | _ => False
/-- an expression of truth -/
def wB (wa : WE) : WT := fun ρ q e => wa ρ (fun s ρ1 => s.gets ρ1 fun d => dB d fun b => q b ρ1) e
theorem st_b {ta : TE} {wa : WE} (ha : SE G W ta wa) : STt G W (tTest ta) (wB wa) := by
  intro M ρ σ H q eq Q rp w k th
  refine ha M ρ σ H _ eq _ rp w (fun s1 ρ1 x H1 g1 r1 w1 => ?_) th
  obtain ⟨d1, a1, w3⟩ := r1.arg g1.rep w1
  unfold dB at w3
  split at w3
  · exact ⟨_, a1.bl, k _ ρ1 H1 g1 w3⟩
  · exact w3.elim
theorem pxt_cmp {wa wb : WE} {f : CmpOp} {r : R2} {op : Op2} (hr : OpR X (compareOp f) r) (ho : OpS G op r) (ha : PX G X W a wa) (hb : PX G X W b wb) (hm : behindInMarks f b = false) : PXT G X W (.Compare a [f] [b] pos) (wB (wOp op wa wb)) := by
  obtain ⟨ta, pa, sa⟩ := ha
  obtain ⟨tb, pb, sb⟩ := hb
  exact ⟨_, pt_cmpR hr pa pb hm, st_b (se_op sa sb ho)⟩
/-- truth of a value -/
def dTru (d : D) (k : Bool → Prop) : Prop := match d with
  | .non => k false
  | .bl b => k b
  | .int i => k (i != 0)
  | .str x => x.length ≤ sizeLine ∧ k (x.length != 0)
  | .lst ds => k (!ds.isEmpty)
  | .tup ds => k (!ds.isEmpty)
  | _ => False
def wTru (wa : WE) : WT := fun ρ q e => wa ρ (fun s ρ1 => s.gets ρ1 fun d => dTru d fun b => q b ρ1) e
theorem empty_len {G : Gx} {H : Hp} {xs : List V} {ds : List D} (t : RAll G H xs ds) : xs.isEmpty = ds.isEmpty := by cases t <;> rfl
theorem dTru_of {M : List Addr} {H : Hp} {x : V} {d : D} {k : Bool → Prop} {K : PySem.W.Frag} (hK : K = G.K) (a : Arg G M H x d) (h : dTru d k) : ∃ b, TruV K x H b ∧ k b := by
  subst hK
  unfold dTru at h
  split at h
  · exact ⟨_, by rw [a.non]; rfl, h⟩
  · exact ⟨_, by rw [a.bl]; rfl, h⟩
  · exact ⟨_, by rw [a.int]; rfl, h⟩
  · rename_i z
    refine ⟨_, ?_, h.2⟩
    rw [a.str]
    refine ⟨h.1, ?_⟩
    cases z.length <;> rfl
  · obtain ⟨p, xs, rfl, h1, h2⟩ := a.lst
    exact ⟨_, .inl ⟨xs, SqL.of h1, by rw [empty_len h2]⟩, h⟩
  · obtain ⟨p, xs, rfl, h1, h2, _⟩ := a.tup
    exact ⟨_, .inr (.inl ⟨xs, h1, by rw [empty_len h2]⟩), h⟩
  · exact h.elim
theorem pxt_val {wa : WE} (ha : PX G X W a wa) (he : ∀ whole, isTrue a X.env whole = (do let v ← whole; standAt a.pos; holding [v] (truthy v)) := by intro _; rfl) (hK : X.K = G.K := by rfl) : PXT G X W a (wTru wa) := by
  obtain ⟨ta, pa, sa⟩ := ha
  refine ⟨_, pt_truth pa he, ?_⟩
  intro M ρ σ H q eq Q rp w k th
  refine sa M ρ σ H _ eq _ rp w (fun s1 ρ1 x H1 g1 r1 w1 => ?_) th
  obtain ⟨d1, a1, w3⟩ := r1.arg g1.rep w1
  obtain ⟨b, h1, h2⟩ := dTru_of hK a1 w3
  exact ⟨b, h1, k _ ρ1 H1 g1 h2⟩
def wNotT (wa : WT) : WT := fun ρ q e => wa ρ (fun b ρ1 => q (!b) ρ1) e
def wAndT (wa wb : WT) : WT := fun ρ q e => wa ρ (fun b ρ1 => if b = true then wb ρ1 q e else q false ρ1) e
def wOrT (wa wb : WT) : WT := fun ρ q e => wa ρ (fun b ρ1 => if b = true then q true ρ1 else wb ρ1 q e) e
theorem pxt_not {wa : WT} (ha : PXT G X W a wa) : PXT G X W (.UnaryOp .Not a pos) (wNotT wa) := by
  obtain ⟨ta, pa, sa⟩ := ha
  exact ⟨_, pt_not pa, fun M ρ σ H q eq Q rp w k th => sa M ρ σ H _ eq _ rp w (fun b ρ' H' g qq => k _ ρ' H' g qq) th⟩
theorem pxw {wa : WT} (ha : PXW G X W a wa) : PXT G X W a wa := by
  obtain ⟨ta, pa, sa⟩ := ha
  exact ⟨_, pa.pt, sa⟩
theorem pxw_and1 {wa : WT} (ha : PXT G X W a wa) : PXW G X W (.BoolOp .And [a] pos) wa := by
  obtain ⟨ta, pa, sa⟩ := ha
  exact ⟨_, pw_and1 pa, sa⟩
theorem pxw_or1 {wa : WT} (ha : PXT G X W a wa) : PXW G X W (.BoolOp .Or [a] pos) wa := by
  obtain ⟨ta, pa, sa⟩ := ha
  exact ⟨_, pw_or1 pa, sa⟩
theorem pxw_and {wa wb : WT} (ha : PXT G X W a wa) (hb : PXW G X W (.BoolOp .And (b :: rest) pos) wb) : PXW G X W (.BoolOp .And (a :: b :: rest) pos) (wAndT wa wb) := by
  obtain ⟨ta, pa, sa⟩ := ha
  obtain ⟨tb, pb, sb⟩ := hb
  refine ⟨_, pw_and pa pb, fun M ρ σ H q eq Q rp w k th => sa M ρ σ H _ eq _ rp w (fun b ρ' H' g qq => ?_) th⟩
  cases b with
  | true => rw [if_pos rfl] at qq ⊢; exact sb M ρ' σ H' q eq Q g.rep qq (fun b ρ2 H2 g2 => k b ρ2 H2 (g.trans g2)) (th.go g)
  | false => rw [if_neg Bool.false_ne_true] at qq ⊢; exact k _ ρ' H' g qq
theorem pxw_or {wa wb : WT} (ha : PXT G X W a wa) (hb : PXW G X W (.BoolOp .Or (b :: rest) pos) wb) : PXW G X W (.BoolOp .Or (a :: b :: rest) pos) (wOrT wa wb) := by
  obtain ⟨ta, pa, sa⟩ := ha
  obtain ⟨tb, pb, sb⟩ := hb
  refine ⟨_, pw_or pa pb, fun M ρ σ H q eq Q rp w k th => sa M ρ σ H _ eq _ rp w (fun b ρ' H' g qq => ?_) th⟩
  cases b with
  | false => rw [if_neg Bool.false_ne_true] at qq ⊢; exact sb M ρ' σ H' q eq Q g.rep qq (fun b ρ2 H2 g2 => k b ρ2 H2 (g.trans g2)) (th.go g)
  | true => rw [if_pos rfl] at qq ⊢; exact k _ ρ' H' g qq
/-! ### and, or, not as values (of truths); a if t else b -/
def wAndV (wa wb : WE) : WE := fun ρ q e => wa ρ (fun s ρ1 => s.gets ρ1 fun d => dB d fun b => if b = true then wb ρ1 q e else q (.val (.bl false)) ρ1) e
def wOrV (wa wb : WE) : WE := fun ρ q e => wa ρ (fun s ρ1 => s.gets ρ1 fun d => dB d fun b => if b = true then q (.val (.bl true)) ρ1 else wb ρ1 q e) e
def wNotV (wa : WE) : WE := fun ρ q e => wa ρ (fun s ρ1 => s.gets ρ1 fun d => dTru d fun b => q (.val (.bl (!b))) ρ1) e
def wIf (wt : WT) (wa wb : WE) : WE := fun ρ q e => wt ρ (fun b ρ1 => if b = true then wa ρ1 q e else wb ρ1 q e) e
theorem px_one {op} {wa : WE} (ha : PX G X W a wa) : PX G X W (.BoolOp op [a] pos) wa := by
  obtain ⟨ta, pa, sa⟩ := ha
  exact ⟨_, pe_one pa, sa⟩
theorem px_and {wa wb : WE} (ha : PX G X W a wa) (hb : PX G X W (.BoolOp .And (b :: rest) pos) wb) : PX G X W (.BoolOp .And (a :: b :: rest) pos) (wAndV wa wb) := by
  obtain ⟨ta, pa, sa⟩ := ha
  obtain ⟨tb, pb, sb⟩ := hb
  refine ⟨_, pe_and pa pb, fun M ρ σ H q eq Q rp w k th => sa M ρ σ H _ eq _ rp w (fun s ρ' v H' g r1 qq => ?_) th⟩
  obtain ⟨d1, a1, w3⟩ := r1.arg g.rep qq
  unfold dB at w3
  split at w3
  · rename_i b
    refine ⟨b, a1.bl, ?_⟩
    cases b with
    | true => rw [if_pos rfl] at w3 ⊢; exact sb M ρ' σ H' q eq Q g.rep w3 (fun b ρ2 v2 H2 g2 => k b ρ2 v2 H2 (g.trans g2)) (th.go g)
    | false => rw [if_neg Bool.false_ne_true] at w3 ⊢; exact k (.val (.bl false)) ρ' _ H' g (R.bl false) w3
  · exact w3.elim
theorem px_or {wa wb : WE} (ha : PX G X W a wa) (hb : PX G X W (.BoolOp .Or (b :: rest) pos) wb) : PX G X W (.BoolOp .Or (a :: b :: rest) pos) (wOrV wa wb) := by
  obtain ⟨ta, pa, sa⟩ := ha
  obtain ⟨tb, pb, sb⟩ := hb
  refine ⟨_, pe_or pa pb, fun M ρ σ H q eq Q rp w k th => sa M ρ σ H _ eq _ rp w (fun s ρ' v H' g r1 qq => ?_) th⟩
  obtain ⟨d1, a1, w3⟩ := r1.arg g.rep qq
  unfold dB at w3
  split at w3
  · rename_i b
    refine ⟨b, a1.bl, ?_⟩
    cases b with
    | false => rw [if_neg Bool.false_ne_true] at w3 ⊢; exact sb M ρ' σ H' q eq Q g.rep w3 (fun b ρ2 v2 H2 g2 => k b ρ2 v2 H2 (g.trans g2)) (th.go g)
    | true => rw [if_pos rfl] at w3 ⊢; exact k (.val (.bl true)) ρ' _ H' g (R.bl true) w3
  · exact w3.elim
theorem px_not {wa : WE} (ha : PX G X W a wa) (hK : X.K = G.K := by rfl) : PX G X W (.UnaryOp .Not a pos) (wNotV wa) := by
  obtain ⟨ta, pa, sa⟩ := ha
  refine ⟨_, pe_notT pa, fun M ρ σ H q eq Q rp w k th => sa M ρ σ H _ eq _ rp w (fun s ρ' v H' g r1 qq => ?_) th⟩
  obtain ⟨d1, a1, w3⟩ := r1.arg g.rep qq
  obtain ⟨b, h1, h2⟩ := dTru_of hK a1 w3
  exact ⟨b, h1, k (.val (.bl _)) ρ' _ H' g (R.bl _) h2⟩
theorem px_if {wt : WT} {wa wb : WE} (ht : PXT G X W c wt) (ha : PX G X W a wa) (hb : PX G X W b wb) : PX G X W (.IfExp c a b pos) (wIf wt wa wb) := by
  obtain ⟨tt, pt, stt⟩ := ht
  obtain ⟨ta, pa, sa⟩ := ha
  obtain ⟨tb, pb, sb⟩ := hb
  refine ⟨_, pe_ifExp pt pa pb, fun M ρ σ H q eq Q rp w k th => stt M ρ σ H _ eq _ rp w (fun b ρ' H' g qq => ?_) th⟩
  cases b with
  | true => rw [if_pos rfl] at qq ⊢; exact sa M ρ' σ H' q eq Q g.rep qq (fun b ρ2 v2 H2 g2 => k b ρ2 v2 H2 (g.trans g2)) (th.go g)
  | false => rw [if_neg Bool.false_ne_true] at qq ⊢; exact sb M ρ' σ H' q eq Q g.rep qq (fun b ρ2 v2 H2 g2 => k b ρ2 v2 H2 (g.trans g2)) (th.go g)
/-! ### argument lists, displays -/
def wNil : WA := fun ρ q _ => q [] ρ
def wCons (wa : WE) (wr : WA) : WA := fun ρ q e => wa ρ (fun s ρ1 => wr ρ1 (fun ss ρ2 => q (s :: ss) ρ2) e) e
theorem pxa_nil : PXA G X W [] wNil := ⟨_, pa_nil, fun M ρ σ H q eq Q rp w k _ => k [] ρ [] H (.refl rp) .nil w⟩
theorem pxa_cons {wa : WE} {wr : WA} (ha : PX G X W e wa) (hr : PXA G X W es wr) (hs : starEach (e :: es) X.env = (false, eval e X.env) :: starEach es X.env := by rfl) : PXA G X W (e :: es) (wCons wa wr) := by
  obtain ⟨ta, pa, sa⟩ := ha
  obtain ⟨tr, pr, sr⟩ := hr
  refine ⟨_, pa_cons pa pr hs, fun M ρ σ H q eq Q rp w k th => sa M ρ σ H _ eq _ rp w (fun s ρ1 v H1 g1 r1 w1 => ?_) th⟩
  exact sr M ρ1 σ H1 _ eq _ g1.rep w1 (fun ss ρ2 vs H2 g2 r2 w2 => k (s :: ss) ρ2 (v :: vs) H2 (g1.trans g2) (.cons (r1.go g1.rep g2) r2) w2) (th.go g1)
/-- all are values -/
def vals2 : List Src → (List D → Prop) → Prop
  | [], k => k []
  | .val d :: ss, k => vals2 ss fun ds => k (d :: ds)
  | _ :: _, _ => False
structure ValsD (ss : List Src) (k : List D → Prop) : Prop where
  ok : vals2 ss k
theorem RSs.vals' {M : List Addr} {ρ : Env} {σ : L2.St} {H : Hp} : ∀ {vs : List V} {ss : List Src} {k : List D → Prop}, RSs G M ρ σ H vs ss → vals2 ss k → ∃ ds, RAll G (Fz M H) vs ds ∧ k ds
  | _, _, _, .nil, h => ⟨[], .nil, h⟩
  | _, .val d :: _, _, .cons a t, h => by
    obtain ⟨ds, h3, h4⟩ := RSs.vals' t h
    exact ⟨d :: ds, .cons a h3, h4⟩
  | _, .slot _ :: _, _, .cons a t, h => h.elim
theorem RSs.vals {M : List Addr} {ρ : Env} {σ : L2.St} {H : Hp} {vs : List V} {ss : List Src} {k : List D → Prop} (a : RSs G M ρ σ H vs ss) (h : ValsD ss k) : ∃ ds, RAll G (Fz M H) vs ds ∧ k ds := RSs.vals' a h.ok
def wTup (wa : WA) : WE := fun ρ q e => wa ρ (fun ss ρ1 => ValsD ss fun ds => ds.length ≤ sizeLine ∧ q (.val (.tup ds)) ρ1) e
def wLst (wa : WA) : WE := fun ρ q e => wa ρ (fun ss ρ1 => ValsD ss fun ds => ds.length ≤ sizeLine ∧ q (.val (.lst ds)) ρ1) e
theorem px_tup {wa : WA} {x1} (ha : PXA G X W es wa) : PX G X W (.Tuple es x1 pos) (wTup wa) := by
  obtain ⟨ta, pa, sa⟩ := ha
  refine ⟨_, pe_tup pa, fun M ρ σ H q eq Q rp w k th => sa M ρ σ H _ eq _ rp w (fun ss ρ' vs H' g r1 qq => ?_) th⟩
  obtain ⟨ds, h1, h2, h3⟩ := r1.vals qq
  refine ⟨by rw [h1.len]; exact h2, fun p hp => k _ ρ' _ _ (g.then_ex (Ex.new hp)) ?_ h3⟩
  exact .tup (SqT.of (fz_in (g.rep.new hp) upd_same)) (h1.ex (fz_step (Ex.new hp)))
theorem px_lst {wa : WA} (ha : PXA G X W es wa) : PX G X W (.List es pos) (wLst wa) := by
  obtain ⟨ta, pa, sa⟩ := ha
  refine ⟨_, pe_lst pa, fun M ρ σ H q eq Q rp w k th => sa M ρ σ H _ eq _ rp w (fun ss ρ' vs H' g r1 qq => ?_) th⟩
  obtain ⟨ds, h1, h2, h3⟩ := r1.vals qq
  refine ⟨by rw [h1.len]; exact h2, fun p hp => k _ ρ' _ _ (g.then_ex (Ex.new hp)) ?_ h3⟩
  exact .lst (fz_in (g.rep.new hp) upd_same) (h1.ex (fz_step (Ex.new hp)))
/-! ### subscripts, slices -/
theorem px_ix {wa wb : WE} {r : R2} {op : Op2} (hr : IxR X r) (ho : OpS G op r) (ha : PX G X W a wa) (hb : PX G X W b wb) (hs : PlainIx b := by intro _ _; rfl) : PX G X W (.Subscript a b pos) (wOp op wa wb) := by
  obtain ⟨ta, pa, sa⟩ := ha
  obtain ⟨tb, pb, sb⟩ := hb
  exact ⟨_, pe_ix hr pa pb hs, se_op sa sb ho⟩
abbrev WO := Env → (Option Int → Env → Prop) → EQ → Prop
structure PXO (G : Gx) (X : Cx) (W : WX) (e : Option Expr) (w : WO) : Prop where
  ex : ∃ t, PO X e t ∧ ∀ M ρ σ H q eq Q, Rep G M ρ σ H → w ρ q eq → (∀ b ρ' H', Go G M σ ρ H ρ' H' → q b ρ' → Q b H') → Thr G M W σ ρ H eq → t σ H Q
def wNo : WO := fun ρ q _ => q none ρ
def dInt (d : D) (k : Int → Prop) : Prop := match d with
  | .int i => k i
  | _ => False
def wSome (wa : WE) : WO := fun ρ q e => wa ρ (fun s ρ1 => s.gets ρ1 fun d => dInt d fun i => q (some i) ρ1) e
theorem pxo_none : PXO G X W none wNo := ⟨_, po_none, fun M ρ σ H q eq Q rp w k _ => k none ρ H (.refl rp) w⟩
theorem pxo_some {wa : WE} (ha : PX G X W e wa) : PXO G X W (some e) (wSome wa) := by
  obtain ⟨ta, pa, sa⟩ := ha
  refine ⟨_, po_some pa, fun M ρ σ H q eq Q rp w k th => sa M ρ σ H _ eq _ rp w (fun s ρ' v H' g r1 qq => ?_) th⟩
  obtain ⟨d1, a1, w3⟩ := r1.arg g.rep qq
  unfold dInt at w3
  split at w3
  · exact ⟨_, a1.int, k _ ρ' H' g w3⟩
  · exact w3.elim
/-- a part of a list -/
def cutA {α : Type} (xs : List α) (lo hi : Option Int) : List α := (xs.drop (HT.sIx xs.length 0 lo)).take (HT.sIx xs.length xs.length hi - HT.sIx xs.length 0 lo)
theorem RAll.cut {G : Gx} {H : Hp} {vs : List V} {ds : List D} (t : RAll G H vs ds) (lo hi : Option Int) : RAll G H (cutV vs lo hi) (cutA ds lo hi) := by
  unfold cutV cutA
  rw [t.len]
  exact (t.drop _).take _
/-- a slice -/
def dCut (d : D) (lo hi : Option Int) (k : D → Prop) : Prop := match d with
  | .str z => z.length ≤ sizeLine ∧ k (.str (cutS z lo hi))
  | .lst ds => k (.lst (cutA ds lo hi))
  | .tup ds => k (.tup (cutA ds lo hi))
  | _ => False
def wCut (wa : WE) (wl wh : WO) : WE := fun ρ q e => wa ρ (fun s ρ1 => wl ρ1 (fun lo ρ2 => wh ρ2 (fun hi ρ3 => s.gets ρ3 fun d => dCut d lo hi fun d' => q (.val d') ρ3) e) e) e
theorem px_cut {wa : WE} {wl wh : WO} {lo hi : Option Expr} (ha : PX G X W a wa) (hl : PXO G X W lo wl) (hh : PXO G X W hi wh) (hK : X.K = G.K := by rfl) : PX G X W (.Subscript a (.Slice lo hi none p2) pos) (wCut wa wl wh) := by
  obtain ⟨ta, pa, sa⟩ := ha
  obtain ⟨tl, pl, sl⟩ := hl
  obtain ⟨th', ph, sh⟩ := hh
  refine ⟨_, pe_slice (SlR.or sl_str (SlR.or sl_list sl_tupA)) pa pl ph, fun M ρ σ H q eq Q rp w k th => sa M ρ σ H _ eq _ rp w (fun s1 ρ1 x H1 g1 r1 w1 => ?_) th⟩
  refine sl M ρ1 σ H1 _ eq _ g1.rep w1 (fun lo ρ2 H2 g2 w2 => ?_) (th.go g1)
  refine sh M ρ2 σ H2 _ eq _ g2.rep w2 (fun hi ρ3 H3 g3 w3 => ?_) (th.go (g1.trans g2))
  have g := (g1.trans g2).trans g3
  obtain ⟨d, a1, w4⟩ := (r1.go g1.rep (g2.trans g3)).arg g3.rep w3
  unfold dCut at w4
  rw [hK]
  split at w4
  · exact .inl ⟨_, a1.str, w4.1, k (.val (.str _)) ρ3 _ H3 g (R.str _) w4.2⟩
  · obtain ⟨p, xs, rfl, h1, h2⟩ := a1.lst
    refine .inr (.inl ⟨p, xs, rfl, SqL.of h1, fun l hl => ?_⟩)
    exact k (.val _) ρ3 _ _ (g.then_ex (Ex.new hl)) (R.lst (fz_in (g3.rep.new hl) upd_same) ((h2.cut lo hi).ex (fz_step (Ex.new hl)))) w4
  · obtain ⟨p, xs, rfl, h1, h2, h3⟩ := a1.tup
    refine .inr (.inr ⟨p, xs, rfl, h1, fun hq => ?_, fun _ l hl => ?_⟩)
    · refine k (.val _) ρ3 _ _ g ?_ w4
      have e : cutA (_ : List D) lo hi = _ := show (List.drop _ _).take _ = _ from by
        rw [← h2.len, hq.1, hq.2, List.drop_zero, Nat.sub_zero, h2.len, List.take_length]
      rw [e]; exact h3
    · exact k (.val _) ρ3 _ _ (g.then_ex (Ex.new hl)) (R.tup (SqT.of (fz_in (g3.rep.new hl) upd_same)) ((h2.cut lo hi).ex (fz_step (Ex.new hl)))) w4
  · exact w4.elim
/-! ### calls of built-ins -/
def wCall (op : OpN) (wa : WA) : WE := fun ρ q e => wa ρ (fun ss ρ1 => gets2 ρ1 ss fun ds => op ds fun d => q (.val d) ρ1) e
theorem se_call {ta : TA} {wa : WA} {r : List V → Hp → VK → Prop} {op : OpN} (ha : SA G W ta wa) (ho : CallS G op r) : SE G W (tCB r ta) (wCall op wa) := by
  intro M ρ σ H q eq Q rp w k th
  refine ha M ρ σ H _ eq _ rp w (fun s1 ρ1 xs H1 g1 r1 w1 => ?_) th
  obtain ⟨ds, a1, w3⟩ := RSs.args g1.rep r1 w1
  exact ho M H1 xs ds _ g1.rep.tr a1 w3 Q fun d v H' e rd kd => k (.val d) ρ1 v H' (g1.then_ex e) rd kd
theorem px_callB {id : String} {x : Str} {wa : WA} {r : List V → Hp → VK → Prop} {op : OpN} (hc : CallR X (.builtin id) r) (ho : CallS G op r) (hg : Gl X x) (hm : X.mg x = none) (hv : bootBuiltins x = some (.builtin id)) (ha : PXA G X W (e :: es) wa) (hn : x ≠ "__name__" := by decide) (hdb : (x == ("__debug__" : Str)) = false := by decide)
    (he : starEach (e :: es) X.env = (false, eval e X.env) :: starEach es X.env := by rfl) (hpl : (backTo pos (starEach es X.env)).any (·.1) = false := by rfl) : PX G X W (.Call (.Name x p) (e :: es) [] pos) (wCall op wa) := by
  obtain ⟨ta, pa, sa⟩ := ha
  exact ⟨_, pe_callB hc hg hm hv pa hn hdb he hpl, se_call sa ho⟩
theorem px_callT {id : String} {x : Str} {wa : WA} {r : List V → Hp → VK → Prop} {op : OpN} (hc : CallR X (.type id) r) (ho : CallS G op r) (hg : Gl X x) (hm : X.mg x = none) (hv : bootBuiltins x = some (.type id)) (ha : PXA G X W (e :: es) wa) (hn : x ≠ "__name__" := by decide) (hdb : (x == ("__debug__" : Str)) = false := by decide)
    (he : starEach (e :: es) X.env = (false, eval e X.env) :: starEach es X.env := by rfl) (hpl : (backTo pos (starEach es X.env)).any (·.1) = false := by rfl) : PX G X W (.Call (.Name x p) (e :: es) [] pos) (wCall op wa) := by
  obtain ⟨ta, pa, sa⟩ := ha
  exact ⟨_, pe_callTy hc hg hm hv pa hn hdb he hpl, se_call sa ho⟩
/-- a method of a built-in type that changes nothing -/
def tyD (T : String) : D → Prop
  | .str _ => T = "str"
  | .lst _ => T = "list"
  | .dct _ _ => T = "dict"
  | _ => False
def wMeth (T : String) (op : D → OpN) (wo : WE) (wa : WA) : WE := fun ρ q e => wo ρ (fun s ρ1 => s.gets ρ1 fun d0 => tyD T d0 ∧ wa ρ1 (fun ss ρ2 => s.gets ρ2 fun d => gets2 ρ2 ss fun ds => op d ds fun d' => q (.val d') ρ2) e) e
theorem tyD_of {M : List Addr} {H : Hp} {v : V} {d : D} {T : String} (hd : ∀ a ks vs, DctAt G H a ks vs → ∃ kvs, H a = some (.dK kvs)) (a : Arg G M H v d) (h : tyD T d) : tyV G.K T v H := by
  cases d <;> first | exact h.elim | skip
  · rw [a.str]; exact h
  · obtain ⟨p, xs, rfl, h1, _⟩ := a.lst
    exact .inl ⟨h, xs, SqL.of h1⟩
  · obtain ⟨p, ks, vs, rfl, h1⟩ : ∃ p ks vs, v = .ref p ∧ DctAt G H p ks vs := by
      have := a.full
      cases this with | dct x y z => exact ⟨_, _, _, rfl, x⟩
    obtain ⟨kvs, e⟩ := hd _ _ _ h1
    exact .inr (.inr (.inl ⟨h, .inl ⟨kvs, e⟩⟩))
theorem tyD_str {M : List Addr} {H : Hp} {v : V} {d : D} (a : Arg G M H v d) (h : tyD "str" d) : tyV G.K "str" v H := by
  cases d <;> first | exact h.elim | skip
  · rw [a.str]; exact h
  · exact absurd (show (_ : String) = _ from h) (by decide)
  · exact absurd (show (_ : String) = _ from h) (by decide)
theorem tyD_list {M : List Addr} {H : Hp} {v : V} {d : D} (a : Arg G M H v d) (h : tyD "list" d) : tyV G.K "list" v H := by
  cases d <;> first | exact h.elim | skip
  · exact absurd (show (_ : String) = _ from h) (by decide)
  · obtain ⟨p, xs, rfl, h1, _⟩ := a.lst
    exact .inl ⟨h, xs, SqL.of h1⟩
  · exact absurd (show (_ : String) = _ from h) (by decide)
section
variable {o : Expr} {apos cpos : Pos} {name : Str} {T id : String} {op : D → OpN} {r : V → List V → Hp → VK → Prop} {wo : WE} {wa : WA}
theorem px_meth (pa : PlainAttrs T) (slot : Slot T name id) (hty : typeOf (.builtin id) = pure (.type "method_descriptor")) (hT : ∀ M H v d, Arg G M H v d → tyD T d → tyV G.K T v H) (hm : MtR X id r) (hs : MethS G T op r) (ho : PX G X W o wo) (ha : PXA G X W (e :: es) wa)
    (h1 : attributeBase o name X.env (eval o X.env) = eval o X.env := by rfl) (h2 : Few X e es cpos := by rfl) (h3 : (apos.endLine == cpos.line) = true := by rfl) (h4 : starEach (e :: es) X.env = (false, eval e X.env) :: starEach es X.env := by rfl)
    (h5 : (backTo cpos (starEach es X.env)).any (·.1) = false := by rfl) (hK : X.K = G.K := by rfl) : PX G X W (.Call (.Attribute o name apos) (e :: es) [] cpos) (wMeth T op wo wa) := by
  obtain ⟨to, po, so⟩ := ho
  obtain ⟨ta, pa', sa⟩ := ha
  refine ⟨_, pe_bmK (K := G.K) pa slot hty hm po pa' h1 h2 h3 h4 h5 hK, fun M ρ σ H q eq Q rp w k th => so M ρ σ H _ eq _ rp w (fun s1 ρ1 x H1 g1 r1 w1 => ?_) th⟩
  obtain ⟨d0, a0, t0, w2⟩ := r1.arg g1.rep w1
  refine ⟨hT M H1 x d0 a0 t0, sa M ρ1 σ H1 _ eq _ g1.rep w2 (fun ss ρ2 xs H2 g2 r2 w3 => ?_) (th.go g1)⟩
  obtain ⟨d, a1, w4⟩ := (r1.go g1.rep g2).arg g2.rep w3
  obtain ⟨ds, a2, w5⟩ := RSs.args g2.rep r2 w4
  exact hs M H2 x d xs ds _ g2.rep.tr a1 a2 w5 Q fun d v H' e rd kd => k (.val d) ρ2 v H' ((g1.trans g2).then_ex e) rd kd
theorem px_meth0 (pa : PlainAttrs T) (slot : Slot T name id) (hty : typeOf (.builtin id) = pure (.type "method_descriptor")) (hT : ∀ M H v d, Arg G M H v d → tyD T d → tyV G.K T v H) (hm : MtR X id r) (hs : MethS G T op r) (ho : PX G X W o wo)
    (h1 : attributeBase o name X.env (eval o X.env) = eval o X.env := by rfl) (h3 : (apos.endLine == cpos.line) = true := by rfl) (hK : X.K = G.K := by rfl) : PX G X W (.Call (.Attribute o name apos) [] [] cpos) (wMeth T op wo wNil) := by
  obtain ⟨to, po, so⟩ := ho
  refine ⟨_, pe_bm0K (K := G.K) pa slot hty hm po h1 h3 hK, fun M ρ σ H q eq Q rp w k th => so M ρ σ H _ eq _ rp w (fun s1 ρ1 x H1 g1 r1 w1 => ?_) th⟩
  obtain ⟨d0, a0, t0, w2⟩ := r1.arg g1.rep w1
  refine ⟨hT M H1 x d0 a0 t0, ?_⟩
  obtain ⟨d, a1, w4⟩ := r1.arg g1.rep w2
  exact hs M H1 x d [] [] _ g1.rep.tr a1 .nil w4 Q fun d v H' e rd kd => k (.val d) ρ1 v H' (g1.then_ex e) rd kd
end
end
end Pu
/-! ### the pure layer: what the operators and built-ins give -/
namespace Pu
open PySem PySem.Spec PyProof.Rows L2 Lk Evl
variable {G : Gx} {X : Cx}
theorem r_new_lst {M : List Addr} {H : Hp} {p : Addr} {xs : List V} {ds : List D} (t : Trk M H) (hp : H p = none) (h : RAll G (Fz M H) xs ds) : R G (Fz M (upd H p (.lst xs))) (.ref p) (.lst ds) := .lst (fz_in (t.new hp) upd_same) (h.ex (fz_step (Ex.new hp)))
theorem r_new_tup {M : List Addr} {H : Hp} {p : Addr} {xs : List V} {ds : List D} (t : Trk M H) (hp : H p = none) (h : RAll G (Fz M H) xs ds) : R G (Fz M (upd H p (.tup xs))) (.ref p) (.tup ds) := .tup (SqT.of (fz_in (t.new hp) upd_same)) (h.ex (fz_step (Ex.new hp)))
/-! ### arithmetic -/
def dAdd : Op2 := fun x y k => match x, y with
  | .int i, .int j => k (.int (i + j))
  | .str a, .str b => a.length + b.length ≤ sizeLine ∧ k (.str (a ++ b))
  | .lst a, .lst b => a.length + b.length ≤ sizeLine ∧ k (.lst (a ++ b))
  | .tup a, .tup b => a.length + b.length ≤ sizeLine ∧ k (.tup (a ++ b))
  | _, _ => False
abbrev rAddU (K : PySem.W.Frag) : R2 := fun x y H Q => rI0 (fun i j => .int (i + j)) x y H Q ∨ (∃ i j, x = .str i ∧ y = .str j ∧ i.length + j.length ≤ sizeLine ∧ Q (.str (i ++ j)) H) ∨ rCat x y H Q ∨ rCatA K x y H Q
theorem add_ok (hK : X.K = G.K := by rfl) : OpR X (binaryOp .Add) (rAddU G.K) := by
  rw [← hK]; exact OpR.or op_add (OpR.or op_add_str (OpR.or op_cat op_catA))
theorem add_s : OpS G dAdd (rAddU G.K) := by
  intro M H x y d1 d2 k t a1 a2 h Q q
  unfold dAdd at h
  split at h
  · exact .inl ⟨_, _, a1.int, a2.int, q (.int _) _ H (Ex.refl _) (R.int _) h⟩
  · exact .inr (.inl ⟨_, _, a1.str, a2.str, h.1, q (.str _) _ H (Ex.refl _) (R.str _) h.2⟩)
  · obtain ⟨p, xs, rfl, h1, h2⟩ := a1.lst
    obtain ⟨p', xs', rfl, h1', h2'⟩ := a2.lst
    refine .inr (.inr (.inl ⟨p, p', xs, xs', rfl, rfl, h1, h1', by rw [h2.len, h2'.len]; exact h.1, fun l hl => ?_⟩))
    exact q _ _ _ (Ex.new hl) (r_new_lst t hl (h2.app h2')) h.2
  · rename_i a b
    obtain ⟨p, xs, rfl, h1, h2, h3⟩ := a1.tup
    obtain ⟨p', xs', rfl, h1', h2', h3'⟩ := a2.tup
    refine .inr (.inr (.inr ⟨p, p', xs, xs', rfl, rfl, h1, h1', by rw [h2.len, h2'.len]; exact h.1, fun e => ?_, fun _ e => ?_, fun _ _ l hl => ?_⟩))
    · subst e
      cases h2
      exact q _ _ H (Ex.refl _) h3' h.2
    · subst e
      cases h2'
      rw [List.append_nil] at h
      exact q _ _ H (Ex.refl _) h3 h.2
    · exact q _ _ _ (Ex.new hl) (r_new_tup t hl (h2.app h2')) h.2
  · exact h.elim
def dI2 (C : Int → Int → Prop) (g : Int → Int → Int) : Op2 := fun x y k => match x, y with
  | .int i, .int j => C i j ∧ k (.int (g i j))
  | _, _ => False
theorem i2_s {C : Int → Int → Prop} {g : Int → Int → Int} : OpS G (dI2 C g) (rI C fun i j => .int (g i j)) := by
  intro M H x y d1 d2 k t a1 a2 h Q q
  unfold dI2 at h
  split at h
  · exact ⟨_, _, a1.int, a2.int, h.1, q (.int _) _ H (Ex.refl _) (R.int _) h.2⟩
  · exact h.elim
def dSub : Op2 := fun x y k => match x, y with
  | .int i, .int j => k (.int (i - j))
  | _, _ => False
theorem sub_ok : OpR X (binaryOp .Sub) (rI (fun _ _ => True) fun i j => .int (i - j)) := fun pins s σ H x y v u Q I r1 r2 h => by
  obtain ⟨i, j, e1, e2, _, q⟩ := h
  exact op_sub pins s σ H x y v u Q I r1 r2 ⟨i, j, e1, e2, q⟩
theorem sub_s : OpS G dSub (rI (fun _ _ => True) fun i j => .int (i - j)) := by
  intro M H x y d1 d2 k t a1 a2 h Q q
  unfold dSub at h
  split at h
  · exact ⟨_, _, a1.int, a2.int, trivial, q (.int _) _ H (Ex.refl _) (R.int _) h⟩
  · exact h.elim
def CMod (i j : Int) : Prop := 0 < j
def dMod : Op2 := fun x y k => match x, y with
  | .int i, .int j => 0 < j ∧ k (.int (i % j))
  | _, _ => False
theorem mod_ok : OpR X (binaryOp .Mod) (rI CMod fun i j => .int (i % j)) := fun pins s σ H x y v u Q I r1 r2 h => by
  obtain ⟨i, j, e1, e2, hc, q⟩ := h
  have hc' : 0 < j := hc
  exact op_modN pins s σ H x y v u Q I r1 r2 ⟨i, j, e1, e2, Int.ne_of_gt hc', by show Q (V.int (i.fmod j)) H; rw [Int.fmod_eq_emod_of_nonneg _ (Int.le_of_lt hc')]; exact q⟩
theorem mod_s : OpS G dMod (rI CMod fun i j => .int (i % j)) := by
  intro M H x y d1 d2 k t a1 a2 h Q q
  unfold dMod at h
  split at h
  · exact ⟨_, _, a1.int, a2.int, h.1, q (.int _) _ H (Ex.refl _) (R.int _) h.2⟩
  · exact h.elim
def CFd (i j : Int) : Prop := 0 < j ∧ j < 2 ^ 200
def dFdiv : Op2 := fun x y k => match x, y with
  | .int i, .int j => CFd i j ∧ k (.int (i / j))
  | _, _ => False
theorem fdiv_ok : OpR X (binaryOp .FloorDiv) (rI CFd fun i j => .int (i / j)) := opI fun i j t u s Q E hc q => by
  obtain ⟨h1, h2⟩ := hc
  refine floordiv_int (Int.ne_of_gt h1) (by rw [Int.fdiv_eq_ediv_of_nonneg i (Int.le_of_lt h1)]; exact q) (.inl (PyProof.noPylong_of_log2 ?_))
  have h3 : j.natAbs ≠ 0 := by omega
  have h4 : j.natAbs < 2 ^ 200 := by
    have e : ((j.natAbs : Nat) : Int) = j := Int.natAbs_of_nonneg (Int.le_of_lt h1)
    have h5 : ((j.natAbs : Nat) : Int) < ((2 ^ 200 : Nat) : Int) := by rw [e, Int.natCast_pow]; exact h2
    exact Int.ofNat_lt.mp h5
  exact Nat.lt_trans ((Nat.log2_lt h3).mpr h4) (by decide)
theorem fdiv_s : OpS G dFdiv (rI CFd fun i j => .int (i / j)) := by
  intro M H x y d1 d2 k t a1 a2 h Q q
  unfold dFdiv at h
  split at h
  · exact ⟨_, _, a1.int, a2.int, h.1, q (.int _) _ H (Ex.refl _) (R.int _) h.2⟩
  · exact h.elim
def dPow : Op2 := fun x y k => match x, y with
  | .int i, .int j => CPowB i j ∧ k (.int (i ^ j.toNat))
  | _, _ => False
theorem pow_ok : OpR X (binaryOp .Pow) (rI CPowB fun i j => .int (i ^ j.toNat)) := op_powB
theorem pow_s : OpS G dPow (rI CPowB fun i j => .int (i ^ j.toNat)) := by
  intro M H x y d1 d2 k t a1 a2 h Q q
  unfold dPow at h
  split at h
  · exact ⟨_, _, a1.int, a2.int, h.1, q (.int _) _ H (Ex.refl _) (R.int _) h.2⟩
  · exact h.elim
/-- products: of ints (one of them below 2^64), texts and lists repeated -/
def dMul : Op2 := fun x y k => match x, y with
  | .int i, .int j => CMul i j ∧ k (.int (i * j))
  | .str z, .int n => ∃ m : Nat, n = m ∧ z.length * m ≤ 16777216 ∧ m ≤ 16777216 ∧ k (.str (repS z m))
  | .lst ds, .int n => -(2 ^ 63) ≤ n ∧ n < 2 ^ 63 ∧ ds.length * n.toNat ≤ sizeLine ∧ k (.lst (List.replicate n.toNat ds).flatten)
  | .tup ds, .int n => ds ≠ [] ∧ 2 ≤ n ∧ n ≤ 1000 ∧ ds.length ≤ 1000 ∧ k (.tup (List.replicate n.toNat ds).flatten)
  | _, _ => False
abbrev rMulU (K : PySem.W.Frag) : R2 := fun x y H Q => rI CMul (fun i j => .int (i * j)) x y H Q ∨ (∃ (z : Str) (n : Nat), x = .str z ∧ y = .int n ∧ z.length * n ≤ 16777216 ∧ n ≤ 16777216 ∧ Q (.str (repS z n)) H) ∨ rRep x y H Q ∨ rRepT K x y H Q
theorem mul_ok (hK : X.K = G.K := by rfl) : OpR X (binaryOp .Mult) (rMulU G.K) := by
  rw [← hK]; exact OpR.or op_mul (OpR.or op_rep_str (OpR.or op_rep op_repT))
theorem RAll.rep {H : Hp} {xs : List V} {ds : List D} (h : RAll G H xs ds) : ∀ n : Nat, RAll G H (List.replicate n xs).flatten (List.replicate n ds).flatten
  | 0 => .nil
  | n + 1 => by rw [List.replicate_succ, List.replicate_succ, List.flatten_cons, List.flatten_cons]; exact h.app (RAll.rep h n)
theorem mul_s : OpS G dMul (rMulU G.K) := by
  intro M H x y d1 d2 k t a1 a2 h Q q
  unfold dMul at h
  split at h
  · exact .inl ⟨_, _, a1.int, a2.int, h.1, q (.int _) _ H (Ex.refl _) (R.int _) h.2⟩
  · obtain ⟨m, rfl, h1, h2, h3⟩ := h
    exact .inr (.inl ⟨_, m, a1.str, a2.int, h1, h2, q (.str _) _ H (Ex.refl _) (R.str _) h3⟩)
  · obtain ⟨p, xs, rfl, h1, h2⟩ := a1.lst
    obtain ⟨c1, c2, c3, c4⟩ := h
    exact .inr (.inr (.inl ⟨p, _, xs, rfl, a2.int, h1, c1, c2, by rw [h2.len]; exact c3, fun l hl => q _ _ _ (Ex.new hl) (r_new_lst t hl (h2.rep _)) c4⟩))
  · obtain ⟨p, xs, rfl, h1, h2, _⟩ := a1.tup
    obtain ⟨c0, c1, c2, c3, c4⟩ := h
    refine .inr (.inr (.inr ⟨p, _, xs, rfl, a2.int, h1, fun e => ?_, c1, c2, by rw [h2.len]; exact c3, fun l hl => q _ _ _ (Ex.new hl) (r_new_tup t hl (h2.rep _)) c4⟩))
    subst e
    cases h2
    exact c0 rfl
  · exact h.elim
def dNeg : Op1 := fun x k => match x with
  | .int i => k (.int (-i))
  | _ => False
theorem neg_s : UnS G dNeg (rU fun i => .int (-i)) := by
  intro M H x d1 k t a1 h Q q
  unfold dNeg at h
  split at h
  · exact ⟨_, a1.int, q (.int _) _ H (Ex.refl _) (R.int _) h⟩
  · exact h.elim
/-! ### comparisons -/
/-- equality of plain data -/
structure EqD (x y : D) (k : Bool → Prop) : Prop where
  ok : match x.py, y.py with
    | some p, some q => SeqAt.shaped p = true ∧ SeqAt.shaped q = true ∧ k (PyData.eqv p q)
    | _, _ => False
/-- are two values equal: scalars, plain data -/
def dEqB (x y : D) (k : Bool → Prop) : Prop := match x, y with
  | .str a, .str b => k (decide (a = b))
  | .int a, .int b => k (decide (a = b))
  | .bl a, .bl b => k (decide (a = b))
  | .non, .non => k true
  | x, y => EqD x y k
def dEq : Op2 := fun x y k => dEqB x y fun b => k (.bl b)
def dNe : Op2 := fun x y k => dEqB x y fun b => k (.bl (!b))
abbrev rEqU (K : PySem.W.Frag) : R2 := fun x y H Q => rEq x y H Q ∨ rEqD K x y H Q
abbrev rNeU (K : PySem.W.Frag) : R2 := fun x y H Q => rNe x y H Q ∨ rNeD K x y H Q
theorem eq_ok (hu : X.A.units + 64 < cLine) (hK : X.K = G.K := by rfl) : OpR X (compareOp .Eq) (rEqU G.K) := by
  rw [← hK]; exact OpR.or op_eq (op_eqD hu)
theorem ne_ok (hu : X.A.units + 64 < cLine) (hK : X.K = G.K := by rfl) : OpR X (compareOp .NotEq) (rNeU G.K) := by
  rw [← hK]; exact OpR.or op_ne (op_neD hu)
theorem v_str {a b : Str} : decide (V.str a = V.str b) = decide (a = b) := by
  apply decide_eq_decide.mpr; exact ⟨fun h => V.str.inj h, fun h => by rw [h]⟩
theorem v_int {a b : Int} : decide (V.int a = V.int b) = decide (a = b) := by
  apply decide_eq_decide.mpr; exact ⟨fun h => V.int.inj h, fun h => by rw [h]⟩
theorem v_bl {a b : Bool} : decide (V.bl a = V.bl b) = decide (a = b) := by
  apply decide_eq_decide.mpr; exact ⟨fun h => V.bl.inj h, fun h => by rw [h]⟩
theorem eqB_of {M : List Addr} {H : Hp} {x y : V} {d1 d2 : D} {k : Bool → Prop} (a1 : Arg G M H x d1) (a2 : Arg G M H y d2) (h : dEqB d1 d2 k) :
    ∃ b, k b ∧ ((scal x y = true ∧ b = decide (x = y)) ∨ ∃ p q, Dp G.K H x p ∧ Dp G.K H y q ∧ SeqAt.shaped p = true ∧ SeqAt.shaped q = true ∧ b = PyData.eqv p q) := by
  unfold dEqB at h
  split at h
  · exact ⟨_, h, .inl (by rw [a1.str, a2.str]; exact ⟨rfl, v_str.symm⟩)⟩
  · exact ⟨_, h, .inl (by rw [a1.int, a2.int]; exact ⟨rfl, v_int.symm⟩)⟩
  · exact ⟨_, h, .inl (by rw [a1.bl, a2.bl]; exact ⟨rfl, v_bl.symm⟩)⟩
  · exact ⟨_, h, .inl (by rw [a1.non, a2.non]; exact ⟨rfl, rfl⟩)⟩
  · obtain ⟨h⟩ := h
    split at h
    · rename_i p q e1 e2
      exact ⟨_, h.2.2, .inr ⟨p, q, a1.full.dp _ e1, a2.full.dp _ e2, h.1, h.2.1, rfl⟩⟩
    · exact h.elim
theorem eq_s : OpS G dEq (rEqU G.K) := by
  intro M H x y d1 d2 k t a1 a2 h Q q
  obtain ⟨b, kb, h | h⟩ := eqB_of a1 a2 h
  · exact .inl ⟨h.1, by rw [← h.2]; exact q (.bl _) _ H (Ex.refl _) (R.bl _) kb⟩
  · obtain ⟨p, r, h1, h2, h3, h4, h5⟩ := h
    exact .inr ⟨p, r, h1, h2, h3, h4, by rw [← h5]; exact q (.bl _) _ H (Ex.refl _) (R.bl _) kb⟩
theorem ne_s : OpS G dNe (rNeU G.K) := by
  intro M H x y d1 d2 k t a1 a2 h Q q
  obtain ⟨b, kb, h | h⟩ := eqB_of a1 a2 h
  · exact .inl ⟨h.1, by rw [← h.2]; exact q (.bl _) _ H (Ex.refl _) (R.bl _) kb⟩
  · obtain ⟨p, r, h1, h2, h3, h4, h5⟩ := h
    exact .inr ⟨p, r, h1, h2, h3, h4, by rw [← h5]; exact q (.bl _) _ H (Ex.refl _) (R.bl _) kb⟩
/-- order: of ints, of texts -/
def dLt : Op2 := fun x y k => match x, y with
  | .int i, .int j => k (.bl (decide (i < j)))
  | .str a, .str b => k (.bl (decide (a.cps.toList < b.cps.toList)))
  | _, _ => False
def dLe : Op2 := fun x y k => match x, y with
  | .int i, .int j => k (.bl (decide (i ≤ j)))
  | .str a, .str b => k (.bl (!decide (b.cps.toList < a.cps.toList)))
  | _, _ => False
def dGt : Op2 := fun x y k => match x, y with
  | .int i, .int j => k (.bl (decide (j < i)))
  | .str a, .str b => k (.bl (decide (b.cps.toList < a.cps.toList)))
  | _, _ => False
def dGe : Op2 := fun x y k => match x, y with
  | .int i, .int j => k (.bl (decide (j ≤ i)))
  | .str a, .str b => k (.bl (!decide (a.cps.toList < b.cps.toList)))
  | _, _ => False
abbrev rOrd (f : Int → Int → Bool) (g : List Nat → List Nat → Bool) : R2 := fun x y H Q => rI0 (fun i j => .bl (f i j)) x y H Q ∨ ∃ i j, x = .str i ∧ y = .str j ∧ Q (.bl (g i.cps.toList j.cps.toList)) H
theorem lt_s : OpS G dLt (rOrd (fun i j => decide (i < j)) (fun a b => decide (a < b))) := by
  intro M H x y d1 d2 k t a1 a2 h Q q
  unfold dLt at h
  split at h
  · exact .inl ⟨_, _, a1.int, a2.int, q (.bl _) _ H (Ex.refl _) (R.bl _) h⟩
  · exact .inr ⟨_, _, a1.str, a2.str, q (.bl _) _ H (Ex.refl _) (R.bl _) h⟩
  · exact h.elim
theorem le_s : OpS G dLe (rOrd (fun i j => decide (i ≤ j)) (fun a b => !decide (b < a))) := by
  intro M H x y d1 d2 k t a1 a2 h Q q
  unfold dLe at h
  split at h
  · exact .inl ⟨_, _, a1.int, a2.int, q (.bl _) _ H (Ex.refl _) (R.bl _) h⟩
  · exact .inr ⟨_, _, a1.str, a2.str, q (.bl _) _ H (Ex.refl _) (R.bl _) h⟩
  · exact h.elim
theorem gt_s : OpS G dGt (rOrd (fun i j => decide (j < i)) (fun a b => decide (b < a))) := by
  intro M H x y d1 d2 k t a1 a2 h Q q
  unfold dGt at h
  split at h
  · exact .inl ⟨_, _, a1.int, a2.int, q (.bl _) _ H (Ex.refl _) (R.bl _) h⟩
  · exact .inr ⟨_, _, a1.str, a2.str, q (.bl _) _ H (Ex.refl _) (R.bl _) h⟩
  · exact h.elim
theorem ge_s : OpS G dGe (rOrd (fun i j => decide (j ≤ i)) (fun a b => !decide (a < b))) := by
  intro M H x y d1 d2 k t a1 a2 h Q q
  unfold dGe at h
  split at h
  · exact .inl ⟨_, _, a1.int, a2.int, q (.bl _) _ H (Ex.refl _) (R.bl _) h⟩
  · exact .inr ⟨_, _, a1.str, a2.str, q (.bl _) _ H (Ex.refl _) (R.bl _) h⟩
  · exact h.elim
theorem lt_ok : OpR X (compareOp .Lt) (rOrd (fun i j => decide (i < j)) fun a b => decide (a < b)) := OpR.or op_lt op_lt_str
theorem le_ok : OpR X (compareOp .LtE) (rOrd (fun i j => decide (i ≤ j)) fun a b => !decide (b < a)) := OpR.or op_le op_le_str
theorem gt_ok : OpR X (compareOp .Gt) (rOrd (fun i j => decide (j < i)) fun a b => decide (b < a)) := OpR.or op_gt op_gt_str
theorem ge_ok : OpR X (compareOp .GtE) (rOrd (fun i j => decide (j ≤ i)) fun a b => !decide (a < b)) := OpR.or op_ge op_ge_str
/-! ### in -/
def D.leaf : D → Bool
  | .non | .bl _ | .int _ | .str _ => true
  | _ => false
def D.v : D → V
  | .non => .non
  | .bl b => .bl b
  | .int i => .int i
  | .str x => .str x
  | _ => .non
theorem R.leaf {H : Hp} {v : V} {d : D} (h : R G H v d) (l : d.leaf = true) : v = d.v ∧ flatV v = true := by
  cases h <;> first | (exact ⟨rfl, rfl⟩) | cases l
theorem RAll.leaf {H : Hp} : ∀ {vs : List V} {ds : List D}, RAll G H vs ds → ds.all D.leaf = true → vs = ds.map D.v ∧ vs.all flatV = true
  | _, _, .nil, _ => ⟨rfl, rfl⟩
  | _, _, .cons h t, l => by
    rw [List.all_cons, Bool.and_eq_true] at l
    obtain ⟨e1, f1⟩ := h.leaf l.1
    obtain ⟨e2, f2⟩ := t.leaf l.2
    rw [e2] at f2
    subst e1; subst e2
    exact ⟨rfl, by rw [List.all_cons, f1, f2]; rfl⟩
structure InL (x : D) (ds : List D) (k : Bool → Prop) : Prop where
  ok : (x.leaf = true ∧ ds.all D.leaf = true ∧ k (inV x.v (ds.map D.v))) ∨ ∃ p ps, x.py = some p ∧ D.pys ds = some ps ∧ SeqAt.shaped p = true ∧ SeqAt.shaped (.list ps) = true ∧ k (ps.any fun z => PyData.eqv z p)
/-- x in y: a sign or a text in a text; a scalar among scalars; data in a list -/
def dInB (x y : D) (k : Bool → Prop) : Prop := match x, y with
  | .str a, .str b => match a.cps.toList with
    | [c] => k (decide (c ∈ b.cps.toList))
    | _ => k (!(Builtin.Str.occurrences b a 0 b.length 1).isEmpty)
  | x, .lst ds => InL x ds k
  | x, .tup ds => x.leaf = true ∧ ds.all D.leaf = true ∧ k (inV x.v (ds.map D.v))
  | _, _ => False
def dIn : Op2 := fun x y k => dInB x y fun b => k (.bl b)
def dNotIn : Op2 := fun x y k => dInB x y fun b => k (.bl (!b))
abbrev rInU (K : PySem.W.Frag) : R2 := fun x y H Q => rInS x y H Q ∨ (∃ i j, x = .str i ∧ y = .str j ∧ Q (.bl (!(Builtin.Str.occurrences j i 0 j.length 1).isEmpty)) H) ∨ rIn K false x y H Q ∨ rInD K x y H Q
abbrev rNotInU (K : PySem.W.Frag) : R2 := fun x y H Q => rNotInS x y H Q ∨ (∃ i j, x = .str i ∧ y = .str j ∧ Q (.bl (!(!(Builtin.Str.occurrences j i 0 j.length 1).isEmpty))) H) ∨ rIn K true x y H Q ∨ rNotInD K x y H Q
theorem in_ok (hu : X.A.units + 65 < cLine) (hK : X.K = G.K := by rfl) : OpR X (compareOp .In) (rInU G.K) := by
  rw [← hK]; exact OpR.or op_inS (OpR.or op_in_str (OpR.or op_in_seq (op_inD hu)))
theorem notIn_ok (hu : X.A.units + 65 < cLine) (hK : X.K = G.K := by rfl) : OpR X (compareOp .NotIn) (rNotInU G.K) := by
  rw [← hK]; exact OpR.or op_notInS (OpR.or op_notIn_str (OpR.or op_notIn_seq (op_notInD hu)))
theorem str_one {a : Str} {c : Nat} (h : a.cps.toList = [c]) : a = ⟨#[c]⟩ := by
  cases a with | mk x => congr 1; exact Array.ext' (by simpa using h)
theorem inB_of {M : List Addr} {H : Hp} {x y : V} {d1 d2 : D} {k : Bool → Prop} (a1 : Arg G M H x d1) (a2 : Arg G M H y d2) (h : dInB d1 d2 k) :
    ∃ b, k b ∧ ((∃ (c : Nat) (z : Str), x = .str ⟨#[c]⟩ ∧ y = .str z ∧ b = decide (c ∈ z.cps.toList)) ∨ (∃ i j : Str, x = .str i ∧ y = .str j ∧ b = !(Builtin.Str.occurrences j i 0 j.length 1).isEmpty) ∨
      (∃ p xs, y = .ref p ∧ (SqL G.K H p xs ∨ SqT G.K H p xs) ∧ flatV x = true ∧ xs.all flatV = true ∧ b = inV x xs) ∨ ∃ d ds, Dp G.K H x d ∧ Dp G.K H y (.list ds) ∧ SeqAt.shaped d = true ∧ SeqAt.shaped (.list ds) = true ∧ b = ds.any fun z => PyData.eqv z d) := by
  unfold dInB at h
  split at h
  · split at h
    · rename_i c e
      exact ⟨_, h, .inl ⟨c, _, by rw [a1.str, str_one e], a2.str, rfl⟩⟩
    · exact ⟨_, h, .inr (.inl ⟨_, _, a1.str, a2.str, rfl⟩)⟩
  · rcases h.ok with ⟨c1, c2, h⟩ | ⟨p, ps, e1, e2, c1, c2, h⟩
    · obtain ⟨p, xs, rfl, h1, h2⟩ := a2.lst
      obtain ⟨e1, f1⟩ := a1.full.leaf c1
      obtain ⟨e2, f2⟩ := h2.leaf c2
      exact ⟨_, h, .inr (.inr (.inl ⟨p, xs, rfl, .inl (SqL.of h1), f1, f2, by rw [e1, e2]⟩))⟩
    · exact ⟨_, h, .inr (.inr (.inr ⟨p, ps, a1.full.dp _ e1, a2.full.dp _ (by rw [D.py, e2]; rfl), c1, c2, rfl⟩))⟩
  · obtain ⟨p, xs, rfl, h1, h2, _⟩ := a2.tup
    obtain ⟨c1, c2, c3⟩ := h
    obtain ⟨e1, f1⟩ := a1.full.leaf c1
    obtain ⟨e2, f2⟩ := h2.leaf c2
    exact ⟨_, c3, .inr (.inr (.inl ⟨p, xs, rfl, .inr h1, f1, f2, by rw [e1, e2]⟩))⟩
  · exact h.elim
theorem in_s : OpS G dIn (rInU G.K) := by
  intro M H x y d1 d2 k t a1 a2 h Q q
  obtain ⟨b, kb, h | h | h | h⟩ := inB_of a1 a2 h
  · obtain ⟨c, z, e1, e2, e3⟩ := h
    exact .inl ⟨c, z, e1, e2, by rw [← e3]; exact q (.bl _) _ H (Ex.refl _) (R.bl _) kb⟩
  · obtain ⟨c, z, e1, e2, e3⟩ := h
    exact .inr (.inl ⟨c, z, e1, e2, by rw [← e3]; exact q (.bl _) _ H (Ex.refl _) (R.bl _) kb⟩)
  · obtain ⟨p, xs, e1, e2, e3, e4, e5⟩ := h
    exact .inr (.inr (.inl ⟨p, xs, e1, e2, e3, e4, by rw [if_neg Bool.false_ne_true, ← e5]; exact q (.bl _) _ H (Ex.refl _) (R.bl _) kb⟩))
  · obtain ⟨p, xs, e1, e2, e3, e4, e5⟩ := h
    exact .inr (.inr (.inr ⟨p, xs, e1, e2, e3, e4, by rw [← e5]; exact q (.bl _) _ H (Ex.refl _) (R.bl _) kb⟩))
theorem notIn_s : OpS G dNotIn (rNotInU G.K) := by
  intro M H x y d1 d2 k t a1 a2 h Q q
  obtain ⟨b, kb, h | h | h | h⟩ := inB_of a1 a2 h
  · obtain ⟨c, z, e1, e2, e3⟩ := h
    exact .inl ⟨c, z, e1, e2, by rw [← e3]; exact q (.bl _) _ H (Ex.refl _) (R.bl _) kb⟩
  · obtain ⟨c, z, e1, e2, e3⟩ := h
    exact .inr (.inl ⟨c, z, e1, e2, by rw [← e3]; exact q (.bl _) _ H (Ex.refl _) (R.bl _) kb⟩)
  · obtain ⟨p, xs, e1, e2, e3, e4, e5⟩ := h
    exact .inr (.inr (.inl ⟨p, xs, e1, e2, e3, e4, by rw [if_pos rfl, ← e5]; exact q (.bl _) _ H (Ex.refl _) (R.bl _) kb⟩))
  · obtain ⟨p, xs, e1, e2, e3, e4, e5⟩ := h
    exact .inr (.inr (.inr ⟨p, xs, e1, e2, e3, e4, by rw [← e5]; exact q (.bl _) _ H (Ex.refl _) (R.bl _) kb⟩))
/-- is None -/
def D.isNon : D → Bool
  | .non => true
  | _ => false
def dIsN : Op2 := fun x y k => match y with
  | .non => k (.bl x.isNon)
  | _ => False
def dNotN : Op2 := fun x y k => match y with
  | .non => k (.bl (!x.isNon))
  | _ => False
theorem isNon_of {H : Hp} {x : V} {d : D} (h : R G H x d) : decide (x = .non) = d.isNon := by
  cases h <;> first | rfl | (exact decide_eq_false (by intro z; cases z))
theorem isN_s : OpS G dIsN rIsN := by
  intro M H x y d1 d2 k t a1 a2 h Q q
  unfold dIsN at h
  split at h
  · exact ⟨a2.non, by rw [isNon_of a1.full]; exact q (.bl _) _ H (Ex.refl _) (R.bl _) h⟩
  · exact h.elim
theorem notN_s : OpS G dNotN rNotN := by
  intro M H x y d1 d2 k t a1 a2 h Q q
  unfold dNotN at h
  split at h
  · exact ⟨a2.non, by rw [isNon_of a1.full]; exact q (.bl _) _ H (Ex.refl _) (R.bl _) h⟩
  · exact h.elim
/-! ### an item -/
def dIx : Op2 := fun x y k => match x, y with
  | .lst ds, .int i => ∃ d, atI ds i = some d ∧ k d
  | .sl ds, .int i => ∃ d, atI ds i = some d ∧ k d
  | .tup ds, .int i => ∃ d, atI ds i = some d ∧ k d
  | .str z, .int i => z.length ≤ sizeLine ∧ ∃ c, atI z.cps.toList i = some c ∧ k (.str (sgn c))
  | _, _ => False
theorem atI_r {H : Hp} {vs : List V} {ds : List D} {i : Int} {d : D} (t : RAll G H vs ds) (h : atI ds i = some d) : ∃ v, atI vs i = some v ∧ R G H v d := by
  unfold atI at h ⊢
  rw [t.len]
  cases e : ixN ds.length i with
  | none => rw [e] at h; cases h
  | some j => rw [e] at h; exact t.get h
theorem ix_ok (hK : X.K = G.K := by rfl) : IxR X (rIx G.K) := ix_seqK hK
theorem ix_s : OpS G dIx (rIx G.K) := by
  intro M H x y d1 d2 k t a1 a2 h Q q
  unfold dIx at h
  split at h
  · obtain ⟨d, h1, h2⟩ := h
    obtain ⟨p, xs, rfl, e1, e2⟩ := a1.lst
    obtain ⟨v, e3, e4⟩ := atI_r e2 h1
    exact .inl ⟨p, xs, _, v, rfl, a2.int, SqL.of e1, e3, q d v H (Ex.refl _) e4 h2⟩
  · obtain ⟨d, h1, h2⟩ := h
    obtain ⟨p, xs, rfl, e1, e2⟩ := a1.sl
    obtain ⟨v, e3, e4⟩ := atI_r e2 h1
    exact .inl ⟨p, xs, _, v, rfl, a2.int, e1, e3, q d v H (Ex.refl _) e4 h2⟩
  · obtain ⟨d, h1, h2⟩ := h
    obtain ⟨p, xs, rfl, e1, e2, _⟩ := a1.tup
    obtain ⟨v, e3, e4⟩ := atI_r e2 h1
    exact .inr (.inl ⟨p, xs, _, v, rfl, a2.int, e1, e3, q d v H (Ex.refl _) e4 h2⟩)
  · obtain ⟨hz, c, h1, h2⟩ := h
    exact .inr (.inr ⟨_, _, c, a1.str, a2.int, hz, h1, q (.str _) _ H (Ex.refl _) (R.str _) h2⟩)
  · exact h.elim
end Pu
/-! ### the pure layer: built-ins -/
namespace Pu
open PySem PySem.Spec PyProof.Rows L2 Lk Evl
variable {G : Gx} {X : Cx}
/-- one argument, a flat answer -/
def d1 (f : D → (D → Prop) → Prop) : OpN := fun ds k => match ds with
  | [x] => f x k
  | _ => False
def d2 (f : D → D → (D → Prop) → Prop) : OpN := fun ds k => match ds with
  | [x, y] => f x y k
  | _ => False
theorem d1_s {f : D → (D → Prop) → Prop} {r : List V → Hp → VK → Prop} (h : ∀ M H x d k, Trk M H → Arg G M H x d → f d k → ∀ Q : VK, (∀ d v H', Ex H H' → R G (Fz M H') v d → k d → Q v H') → r [x] H Q) : CallS G (d1 f) r := by
  intro M H xs ds k t a hk Q q
  unfold d1 at hk
  split at hk
  · obtain ⟨v, rfl, a1⟩ := a.one
    exact h M H v _ k t a1 hk Q q
  · exact hk.elim
theorem d2_s {f : D → D → (D → Prop) → Prop} {r : List V → Hp → VK → Prop} (h : ∀ M H x y d e k, Trk M H → Arg G M H x d → Arg G M H y e → f d e k → ∀ Q : VK, (∀ d v H', Ex H H' → R G (Fz M H') v d → k d → Q v H') → r [x, y] H Q) : CallS G (d2 f) r := by
  intro M H xs ds k t a hk Q q
  unfold d2 at hk
  split at hk
  · obtain ⟨v, u, rfl, a1, a2⟩ := a.two
    exact h M H v u _ _ k t a1 a2 hk Q q
  · exact hk.elim
/-! ### len -/
def dLen (x : D) (k : D → Prop) : Prop := match x with
  | .str z => z.length ≤ sizeLine ∧ k (.int z.length)
  | .lst ds => k (.int ds.length)
  | .sl ds => k (.int ds.length)
  | .tup ds => k (.int ds.length)
  | _ => False
theorem len_s : CallS G (d1 dLen) (rLenA G.K) := d1_s fun M H x d k t a h Q q => by
  unfold dLen at h
  split at h
  · exact .inr ⟨_, by rw [a.str], h.1, q (.int _) _ H (Ex.refl _) (R.int _) h.2⟩
  · obtain ⟨p, xs, rfl, e1, e2⟩ := a.lst
    exact .inl ⟨p, xs, rfl, .inl (SqL.of e1), by rw [e2.len]; exact q (.int _) _ H (Ex.refl _) (R.int _) h⟩
  · obtain ⟨p, xs, rfl, e1, e2⟩ := a.sl
    exact .inl ⟨p, xs, rfl, .inl e1, by rw [e2.len]; exact q (.int _) _ H (Ex.refl _) (R.int _) h⟩
  · obtain ⟨p, xs, rfl, e1, e2, _⟩ := a.tup
    exact .inl ⟨p, xs, rfl, .inr e1, by rw [e2.len]; exact q (.int _) _ H (Ex.refl _) (R.int _) h⟩
  · exact h.elim
/-! ### all, any, sum, abs, max, min, int, str, bool -/
def D.asB : D → Option Bool
  | .bl b => some b
  | _ => none
def D.asI : D → Option Int
  | .int b => some b
  | _ => none
def D.asS : D → Option Str
  | .str b => some b
  | _ => none
def allM {α : Type} (f : D → Option α) : List D → Option (List α)
  | [] => some []
  | d :: ds => match f d, allM f ds with
    | some x, some xs => some (x :: xs)
    | _, _ => none
theorem allM_map {α : Type} {f : D → Option α} {g : α → D} (hf : ∀ d x, f d = some x → d = g x) : ∀ {ds : List D} {xs : List α}, allM f ds = some xs → ds = xs.map g
  | [], xs, h => by cases h; rfl
  | d :: ds, xs, h => by
    unfold allM at h
    split at h
    · rename_i x ys e1 e2
      cases h
      rw [hf _ _ e1, allM_map hf e2]; rfl
    · cases h
theorem asB_eq {d : D} {b : Bool} (h : d.asB = some b) : d = .bl b := by cases d <;> first | (cases h; rfl) | cases h
theorem asI_eq {d : D} {b : Int} (h : d.asI = some b) : d = .int b := by cases d <;> first | (cases h; rfl) | cases h
theorem asS_eq {d : D} {b : Str} (h : d.asS = some b) : d = .str b := by cases d <;> first | (cases h; rfl) | cases h
theorem allM_of {α : Type} {f : D → Option α} {g : α → D} (hf : ∀ x, f (g x) = some x) : ∀ xs : List α, allM f (xs.map g) = some xs
  | [] => rfl
  | x :: xs => by rw [List.map_cons, allM, hf, allM_of hf xs]
theorem allB (xs : List Bool) : allM D.asB (xs.map D.bl) = some xs := allM_of (f := D.asB) (g := D.bl) (fun _ => rfl) xs
theorem allI (xs : List Int) : allM D.asI (xs.map D.int) = some xs := allM_of (f := D.asI) (g := D.int) (fun _ => rfl) xs
theorem allS (xs : List Str) : allM D.asS (xs.map D.str) = some xs := allM_of (f := D.asS) (g := D.str) (fun _ => rfl) xs
def optK {α : Type} (o : Option α) (k : α → Prop) : Prop := match o with
  | some x => k x
  | none => False
theorem optK_of {α : Type} {o : Option α} {k : α → Prop} (h : optK o k) : ∃ x, o = some x ∧ k x := by
  cases o with
  | none => exact h.elim
  | some x => exact ⟨x, rfl, h⟩
structure dAll (x : D) (k : D → Prop) : Prop where
  ok : match x with
    | .lst ds => optK (allM D.asB ds) fun bs => k (.bl (bs.all id))
    | _ => False
structure dAny (x : D) (k : D → Prop) : Prop where
  ok : match x with
    | .lst ds => optK (allM D.asB ds) fun bs => k (.bl (bs.any id))
    | _ => False
theorem all_s : CallS G (d1 dAll) (rAll G.K) := d1_s fun M H x d k t a h Q q => by
  obtain ⟨h⟩ := h
  split at h
  · obtain ⟨bs, e, h'⟩ := optK_of h
    have e2 := allM_map (g := D.bl) (fun _ _ => asB_eq) e
    subst e2
    obtain ⟨p, xs, rfl, e1, e2⟩ := a.lst
    rw [e2.bls_inv] at e1
    exact ⟨p, bs, rfl, SqL.of e1, q (.bl _) _ H (Ex.refl _) (R.bl _) h'⟩
  · exact h.elim
theorem any_s : CallS G (d1 dAny) (rAny G.K) := d1_s fun M H x d k t a h Q q => by
  obtain ⟨h⟩ := h
  split at h
  · obtain ⟨bs, e, h'⟩ := optK_of h
    have e2 := allM_map (g := D.bl) (fun _ _ => asB_eq) e
    subst e2
    obtain ⟨p, xs, rfl, e1, e2⟩ := a.lst
    rw [e2.bls_inv] at e1
    exact ⟨p, bs, rfl, SqL.of e1, q (.bl _) _ H (Ex.refl _) (R.bl _) h'⟩
  · exact h.elim
structure dSum (x : D) (k : D → Prop) : Prop where
  ok : match x with
    | .lst ds => optK (allM D.asI ds) fun bs => k (.int bs.sum)
    | _ => False
theorem sum_s : CallS G (d1 dSum) (rSum G.K) := d1_s fun M H x d k t a h Q q => by
  obtain ⟨h⟩ := h
  split at h
  · obtain ⟨bs, e, h'⟩ := optK_of h
    have e2 := allM_map (g := D.int) (fun _ _ => asI_eq) e
    subst e2
    obtain ⟨p, xs, rfl, e1, e2⟩ := a.lst
    rw [e2.ints_inv] at e1
    exact ⟨p, bs, rfl, SqL.of e1, q (.int _) _ H (Ex.refl _) (R.int _) h'⟩
  · exact h.elim
theorem sum_ok (hc : X.calm = true) (hK : X.K = G.K := by rfl) : CallR X (.builtin "sum") (rSum G.K) := hK ▸ cr_sum hc
theorem all_ok (hc : X.calm = true) (hK : X.K = G.K := by rfl) : CallR X (.builtin "all") (rAll G.K) := hK ▸ cr_all hc
theorem any_ok (hc : X.calm = true) (hK : X.K = G.K := by rfl) : CallR X (.builtin "any") (rAny G.K) := hK ▸ cr_any hc
def dAbs (x : D) (k : D → Prop) : Prop := match x with
  | .int i => k (.int (if i < 0 then -i else i))
  | _ => False
theorem abs_s : CallS G (d1 dAbs) (fun xs H Q => ∃ i, xs = [.int i] ∧ Q (.int (if i < 0 then -i else i)) H) := d1_s fun M H x d k t a h Q q => by
  unfold dAbs at h
  split at h
  · exact ⟨_, by rw [a.int], q (.int _) _ H (Ex.refl _) (R.int _) h⟩
  · exact h.elim
def dMax2 (x y : D) (k : D → Prop) : Prop := match x, y with
  | .int i, .int j => k (.int (if j > i then j else i))
  | _, _ => False
def dMin2 (x y : D) (k : D → Prop) : Prop := match x, y with
  | .int i, .int j => k (.int (if j < i then j else i))
  | _, _ => False
theorem max2_s : CallS G (d2 dMax2) (fun xs H Q => ∃ i j, xs = [.int i, .int j] ∧ Q (.int (if j > i then j else i)) H) := d2_s fun M H x y d e k t a b h Q q => by
  unfold dMax2 at h
  split at h
  · exact ⟨_, _, by rw [a.int, b.int], q (.int _) _ H (Ex.refl _) (R.int _) h⟩
  · exact h.elim
theorem min2_s : CallS G (d2 dMin2) (fun xs H Q => ∃ i j, xs = [.int i, .int j] ∧ Q (.int (if j < i then j else i)) H) := d2_s fun M H x y d e k t a b h Q q => by
  unfold dMin2 at h
  split at h
  · exact ⟨_, _, by rw [a.int, b.int], q (.int _) _ H (Ex.refl _) (R.int _) h⟩
  · exact h.elim
/-- the greatest, the least of a list of ints: by their places -/
structure dMaxL (x : D) (k : D → Prop) : Prop where
  ok : match x with
    | .lst ds => optK (allM D.asI ds) fun ns => 0 < ns.length ∧ ∀ m, m ∈ ns → (∀ n ∈ ns, n ≤ m) → k (.int m)
    | _ => False
structure dMinL (x : D) (k : D → Prop) : Prop where
  ok : match x with
    | .lst ds => optK (allM D.asI ds) fun ns => 0 < ns.length ∧ ∀ m, m ∈ ns → (∀ n ∈ ns, m ≤ n) → k (.int m)
    | _ => False
theorem maxL_s : CallS G (d1 dMaxL) (rMax G.K) := d1_s fun M H x d k t a h Q q => by
  obtain ⟨h⟩ := h
  split at h
  · obtain ⟨bs, e, h1, h2⟩ := optK_of h
    have e2 := allM_map (g := D.int) (fun _ _ => asI_eq) e
    subst e2
    obtain ⟨p, xs, rfl, e1, e2⟩ := a.lst
    rw [e2.ints_inv] at e1
    exact ⟨p, bs, rfl, SqL.of e1, h1, fun m hm hle => q (.int _) _ H (Ex.refl _) (R.int _) (h2 m hm hle)⟩
  · exact h.elim
theorem minL_s : CallS G (d1 dMinL) (rMin G.K) := d1_s fun M H x d k t a h Q q => by
  obtain ⟨h⟩ := h
  split at h
  · obtain ⟨bs, e, h1, h2⟩ := optK_of h
    have e2 := allM_map (g := D.int) (fun _ _ => asI_eq) e
    subst e2
    obtain ⟨p, xs, rfl, e1, e2⟩ := a.lst
    rw [e2.ints_inv] at e1
    exact ⟨p, bs, rfl, SqL.of e1, h1, fun m hm hle => q (.int _) _ H (Ex.refl _) (R.int _) (h2 m hm hle)⟩
  · exact h.elim
theorem maxL_ok (hc : X.calm = true) (hK : X.K = G.K := by rfl) : CallR X (.builtin "max") (rMax G.K) := hK ▸ cr_max hc
theorem minL_ok (hc : X.calm = true) (hK : X.K = G.K := by rfl) : CallR X (.builtin "min") (rMin G.K) := hK ▸ cr_min hc
/-- int(n), int(flag), int(a text of figures) -/
def dToInt (x : D) (k : D → Prop) : Prop := match x with
  | .int i => k (.int i)
  | .bl b => k (.int (if b then 1 else 0))
  | .str z => ∃ n, PySem.intText? z = some n ∧ z.length ≤ 640 ∧ k (.int n)
  | _ => False
abbrev rToInt : List V → Hp → VK → Prop := fun xs H Q => ((∃ i, xs = [.int i] ∧ Q (.int i) H) ∨ ∃ k, xs = [.bl k] ∧ Q (.int (if k then 1 else 0)) H) ∨ ∃ a n, xs = [.str a] ∧ PySem.intText? a = some n ∧ a.length ≤ 640 ∧ Q (.int n) H
theorem toInt_ok : CallR X (.type "int") rToInt := CallR.or call_int1 call_int_str
theorem toInt_s : CallS G (d1 dToInt) rToInt := d1_s fun M H x d k t a h Q q => by
  unfold dToInt at h
  split at h
  · exact .inl (.inl ⟨_, by rw [a.int], q (.int _) _ H (Ex.refl _) (R.int _) h⟩)
  · exact .inl (.inr ⟨_, by rw [a.bl], q (.int _) _ H (Ex.refl _) (R.int _) h⟩)
  · obtain ⟨n, h1, h2, h3⟩ := h
    exact .inr ⟨_, n, by rw [a.str], h1, h2, q (.int _) _ H (Ex.refl _) (R.int _) h3⟩
  · exact h.elim
def dToStr (x : D) (k : D → Prop) : Prop := match x with
  | .int i => i.natAbs.log2 < 1920 ∧ k (.str (toString i))
  | _ => False
theorem toStr_s : CallS G (d1 dToStr) (fun xs H Q => ∃ i, xs = [.int i] ∧ i.natAbs.log2 < 1920 ∧ Q (.str (toString i)) H) := d1_s fun M H x d k t a h Q q => by
  unfold dToStr at h
  split at h
  · exact ⟨_, by rw [a.int], h.1, q (.str _) _ H (Ex.refl _) (R.str _) h.2⟩
  · exact h.elim
/-! ### list, tuple -/
def dToLst (x : D) (k : D → Prop) : Prop := match x with
  | .lst ds => k (.lst ds)
  | .sl ds => k (.lst ds)
  | .tup ds => k (.lst ds)
  | .str z => z.length ≤ sizeLine ∧ k (.lst (z.cps.toList.map fun c => .str (sgn c)))
  | _ => False
abbrev rToLst (K : PySem.W.Frag) : List V → Hp → VK → Prop := fun xs H Q => rListS K xs H Q ∨ ∃ z : Str, xs = [.str z] ∧ z.length ≤ sizeLine ∧ ∀ l, H l = none → Q (.ref l) (upd H l (.lst (z.cps.toList.map fun c => .str (sgn c))))
theorem toLst_ok (hc : X.calm = true) (hK : X.K = G.K := by rfl) : CallR X (.type "list") (rToLst G.K) := CallR.or (list_ofK hK) (Lk.call_list_str hc)
theorem RAll.sgns {H : Hp} (cs : List Nat) : RAll G H (cs.map fun c => V.str (sgn c)) (cs.map fun c => D.str (sgn c)) := by
  induction cs with
  | nil => exact .nil
  | cons c cs ih => exact .cons (.str _) ih
theorem toLst_s : CallS G (d1 dToLst) (rToLst G.K) := d1_s fun M H x d k t a h Q q => by
  unfold dToLst at h
  split at h
  · obtain ⟨p, xs, rfl, e1, e2⟩ := a.lst
    exact .inl ⟨p, xs, rfl, .inl (SqL.of e1), fun l hl => q _ _ _ (Ex.new hl) (r_new_lst t hl e2) h⟩
  · obtain ⟨p, xs, rfl, e1, e2⟩ := a.sl
    exact .inl ⟨p, xs, rfl, .inl e1, fun l hl => q _ _ _ (Ex.new hl) (r_new_lst t hl e2) h⟩
  · obtain ⟨p, xs, rfl, e1, e2, _⟩ := a.tup
    exact .inl ⟨p, xs, rfl, .inr e1, fun l hl => q _ _ _ (Ex.new hl) (r_new_lst t hl e2) h⟩
  · exact .inr ⟨_, by rw [a.str], h.1, fun l hl => q _ _ _ (Ex.new hl) (r_new_lst t hl (RAll.sgns _)) h.2⟩
  · exact h.elim
def dToTup (x : D) (k : D → Prop) : Prop := match x with
  | .lst ds => k (.tup ds)
  | .tup ds => k (.tup ds)
  | _ => False
theorem toTup_s : CallS G (d1 dToTup) (rTupOf G.K) := d1_s fun M H x d k t a h Q q => by
  unfold dToTup at h
  split at h
  · obtain ⟨p, xs, rfl, e1, e2⟩ := a.lst
    exact ⟨p, xs, rfl, .inl ⟨SqL.of e1, fun l hl => q _ _ _ (Ex.new hl) (r_new_tup t hl e2) h⟩⟩
  · obtain ⟨p, xs, rfl, e1, e2, e3⟩ := a.tup
    exact ⟨p, xs, rfl, .inr ⟨e1, q _ _ H (Ex.refl _) e3 h⟩⟩
  · exact h.elim
/-! ### repr -/
structure dRepr (x : D) (k : D → Prop) : Prop where
  ok : optK x.py fun p => p.showable = true ∧ p.hasDict = false ∧ p.depth ≤ 60 ∧ p.shown.length ≤ sizeLine ∧ k (.str p.shown)
theorem repr_s : CallS G (d1 dRepr) (rReprA G.K) := d1_s fun M H x d k t a h Q q => by
  obtain ⟨p, e, h1, h2, h3, h4, h5⟩ := optK_of h.ok
  exact ⟨x, p, rfl, a.full.dp _ e, h1, h2, h3, h4, q (.str _) _ H (Ex.refl _) (R.str _) h5⟩
/-! ### sorted: of texts, of ints -/
structure dSorted (x : D) (k : D → Prop) : Prop where
  ok : match x with
    | .lst ds => optK (allM D.asS ds) fun xs => xs.length < 64 ∧ ∀ ys : List Str, ys.Perm xs → sortedS ys = true → k (.lst (ys.map D.str))
    | _ => False
theorem sorted_s : CallS G (d1 dSorted) (rSortedS G.K) := d1_s fun M H x d k t a h Q q => by
  obtain ⟨h⟩ := h
  split at h
  · obtain ⟨bs, e, h1, h2⟩ := optK_of h
    have e2 := allM_map (g := D.str) (fun _ _ => asS_eq) e
    subst e2
    obtain ⟨p, xs, rfl, e1, e2⟩ := a.lst
    rw [e2.strs_inv] at e1
    exact ⟨p, bs, rfl, SqL.of e1, h1, fun ys l hp hs hl => q _ _ _ (Ex.new hl) (r_new_lst t hl (RAll.of_strs ys)) (h2 ys hp hs)⟩
  · exact h.elim
/-! ### isinstance against a built-in class -/
inductive BT where
  | str | int | bool | tup | lst | dct
def BT.name : BT → String
  | .str => "str" | .int => "int" | .bool => "bool" | .tup => "tuple" | .lst => "list" | .dct => "dict"
def BT.has : BT → D → Option Bool
  | .str, .str _ | .int, .int _ | .int, .bl _ | .bool, .bl _ | .tup, .tup _ | .lst, .lst _ | .lst, .sl _ | .dct, .dct _ _ => some true
  | _, .obj _ _ _ => none
  | _, .ty _ => none
  | _, .cls _ => none
  | _, .exc _ _ _ _ _ => none
  | _, _ => some false
/-- the name of a value's built-in class -/
def D.tyn : D → Option String
  | .non => some "NoneType" | .bl _ => some "bool" | .int _ => some "int" | .str _ => some "str" | .tup _ => some "tuple" | .lst _ => some "list" | .sl _ => some "list" | .dct _ _ => some "dict"
  | _ => none
theorem tyn_of {M : List Addr} {H : Hp} {v : V} {d : D} {n : String} (a : Arg G M H v d) (h : d.tyn = some n) : TyX G.K H v (.type n) := by
  have sq : ∀ {a xs}, SqL G.K H a xs → TyX G.K H (.ref a) (.type "list") := by
    rintro a xs ((h | ⟨o, h⟩) | ⟨o, its, m, h1, h2, _⟩)
    · exact .base (.lst h)
    · exact .base (.frz h)
    · exact .kList h1 h2
  have st : ∀ {a xs}, SqT G.K H a xs → TyX G.K H (.ref a) (.type "tuple") := by
    rintro a xs ((h | ⟨o, h⟩) | ⟨o, its, m, h1, h2, _⟩)
    · exact .base (.tup h)
    · exact .fTuple h
    · exact .kTuple h1 h2
  have f := a.full
  cases f <;> first | (cases h; done) | skip
  · cases h; exact .base .non
  · cases h; exact .base (.bl _)
  · cases h; exact .base (.int _)
  · cases h; exact .base (.str _)
  · cases h; rename_i h1 h2; exact st h1
  · cases h; rename_i h1 h2; exact .base (.lst h1)
  · cases h; rename_i h1 h2; exact sq h1
  · cases h
    rename_i h1 h2 h3
    obtain ⟨kvs, h1 | ⟨o, h1⟩, _⟩ := h1
    · exact .base (.dK h1)
    · exact .fDict h1
theorem has_kit (K : PySem.W.Frag) {b : BT} {d : D} {r : Bool} (h : b.has d = some r) : ∃ n, d.tyn = some n ∧ PySem.W.kitOne K (.type n) (.type b.name) = some r := by
  cases b <;> cases d <;> first | (cases h; done) | (cases h; exact ⟨_, rfl, kit_ty (by decide +kernel)⟩)
def dIsi (b : BT) (x y : D) (k : D → Prop) : Prop := y = .ty b.name ∧ optK (b.has x) fun r => k (.bl r)
theorem isi_s (b : BT) : CallS G (d2 (dIsi b)) (rIsi G.K) := d2_s fun M H x y d e k t a1 a2 h Q q => by
  obtain ⟨rfl, h⟩ := h
  obtain ⟨r, e1, h⟩ := optK_of h
  obtain ⟨n, e2, e3⟩ := has_kit G.K e1
  have ey : y = .ty b.name := by have := a2.full; cases this; rfl
  subst ey
  exact ⟨x, _, _, _, r, rfl, .ty _, tyn_of a1 e2, e3, q (.bl _) _ H (Ex.refl _) (R.bl _) h⟩
/-! ### methods of texts -/
def m1 (f : D → D → (D → Prop) → Prop) : D → OpN := fun x ds k => match ds with
  | [y] => f x y k
  | _ => False
theorem m1_s {T : String} {f : D → D → (D → Prop) → Prop} {r : V → List V → Hp → VK → Prop} (h : ∀ M H x y d e k, Trk M H → Arg G M H x d → Arg G M H y e → f d e k → ∀ Q : VK, (∀ d v H', Ex H H' → R G (Fz M H') v d → k d → Q v H') → r x [y] H Q) : MethS G T (m1 f) r := by
  intro M H x d xs ds k t a as hk Q q
  unfold m1 at hk
  split at hk
  · obtain ⟨v, rfl, a1⟩ := as.one
    exact h M H x v _ _ k t a a1 hk Q q
  · exact hk.elim
structure dJoin (x y : D) (k : D → Prop) : Prop where
  ok : match x, y with
    | .str a, .lst ds => optK (allM D.asS ds) fun ys => (ys.map (·.length)).sum + ys.length * a.length ≤ 16777216 ∧ k (.str (Txt.join a ys))
    | .str a, .tup ds => optK (allM D.asS ds) fun ys => (ys.map (·.length)).sum + ys.length * a.length ≤ 16777216 ∧ k (.str (Txt.join a ys))
    | _, _ => False
theorem join_s : MethS G "str" (m1 dJoin) (rJoin G.K) := m1_s fun M H x y d e k t a1 a2 h Q q => by
  obtain ⟨h⟩ := h
  split at h
  · obtain ⟨ys, e, h1, h2⟩ := optK_of h
    have e2 := allM_map (g := D.str) (fun _ _ => asS_eq) e
    subst e2
    obtain ⟨p, xs, rfl, e1, e2⟩ := a2.lst
    rw [e2.strs_inv] at e1
    exact ⟨_, p, ys, a1.str, rfl, .inl (SqL.of e1), h1, q (.str _) _ H (Ex.refl _) (R.str _) h2⟩
  · obtain ⟨ys, e, h1, h2⟩ := optK_of h
    have e2 := allM_map (g := D.str) (fun _ _ => asS_eq) e
    subst e2
    obtain ⟨p, xs, rfl, e1, e2, _⟩ := a2.tup
    rw [e2.strs_inv] at e1
    exact ⟨_, p, ys, a1.str, rfl, .inr e1, h1, q (.str _) _ H (Ex.refl _) (R.str _) h2⟩
  · exact h.elim
def dSplit (x y : D) (k : D → Prop) : Prop := match x, y with
  | .str a, .str b => (b.length == 0) = false ∧ a.length + 2 ≤ sizeLine ∧ k (.lst ((Txt.split a b).map D.str))
  | _, _ => False
abbrev rSplit : V → List V → Hp → VK → Prop := fun x xs H Q => ∃ a b, x = .str a ∧ xs = [.str b] ∧ (b.length == 0) = false ∧ a.length + 2 ≤ sizeLine ∧ rNewStrs (Txt.split a b) H Q
theorem split_s : MethS G "str" (m1 dSplit) rSplit := m1_s fun M H x y d e k t a1 a2 h Q q => by
  unfold dSplit at h
  split at h
  · exact ⟨_, _, a1.str, by rw [a2.str], h.1, h.2.1, fun l hl => q _ _ _ (Ex.new hl) (r_new_lst t hl (RAll.of_strs _)) h.2.2⟩
  · exact h.elim
def dStarts (x y : D) (k : D → Prop) : Prop := match x, y with
  | .str a, .str b => k (.bl (Txt.startswith a b))
  | _, _ => False
theorem starts_s : MethS G "str" (m1 dStarts) (fun x xs H Q => ∃ a b, x = .str a ∧ xs = [.str b] ∧ Q (.bl (Txt.startswith a b)) H) := m1_s fun M H x y d e k t a1 a2 h Q q => by
  unfold dStarts at h
  split at h
  · exact ⟨_, _, a1.str, by rw [a2.str], q (.bl _) _ H (Ex.refl _) (R.bl _) h⟩
  · exact h.elim
/-! ### xs.index(y) of data -/
structure dIndex (x y : D) (k : D → Prop) : Prop where
  ok : match x with
    | .lst ds => match D.pys ds, y.py with
      | some ps, some p => SeqAt.shaped (.list ps) = true ∧ SeqAt.shaped p = true ∧ ∃ (j : Nat) (z : PyData), ps[j]? = some z ∧ PyData.eqv z p = true ∧ (∀ (m : Nat) (z' : PyData), m < j → ps[m]? = some z' → PyData.eqv z' p = false) ∧ k (.int (j : Nat))
      | _, _ => False
    | _ => False
theorem index_s : MethS G "list" (m1 dIndex) (rIndexD G.K) := m1_s fun M H x y d e k t a1 a2 h Q q => by
  obtain ⟨h⟩ := h
  split at h
  · split at h
    · rename_i ps p e1 e2
      obtain ⟨h1, h2, j, z, h3, h4, h5, h6⟩ := h
      obtain ⟨b, xs, rfl, e3, e4⟩ := a1.lst
      exact ⟨b, y, p, ps, j, z, rfl, rfl, a1.full.dp _ (by rw [D.py, e1]; rfl), a2.full.dp _ e2, h1, h2, h3, h4, h5, q (.int _) _ H (Ex.refl _) (R.int _) h6⟩
    · exact h.elim
  · exact h.elim
end Pu
/-! ### the pure layer: statements -/
namespace Pu
open PySem PySem.Spec PyProof.Rows L2 Lk Evl
/-! ### one reading for all -/
def tOf (G : Gx) (W : WX) (w : WE) : TE := fun σ H Q => ∃ M ρ q eq, Rep G M ρ σ H ∧ w ρ q eq ∧ (∀ s ρ' v H', Go G M σ ρ H ρ' H' → RS G M ρ' σ H' v s → q s ρ' → Q v H') ∧ Thr G M W σ ρ H eq
def tOfT (G : Gx) (W : WX) (w : WT) : TT := fun σ H Q => ∃ M ρ q eq, Rep G M ρ σ H ∧ w ρ q eq ∧ (∀ b ρ' H', Go G M σ ρ H ρ' H' → q b ρ' → Q b H') ∧ Thr G M W σ ρ H eq
theorem PX.can {G : Gx} {X : Cx} {W : WX} {e : Expr} {w : WE} (h : PX G X W e w) : PE X e (tOf G W w) := by
  obtain ⟨t, p, s⟩ := h
  exact ⟨fun pins st σ H Q I ⟨M, ρ, q, eq, a, b, c, d⟩ => p.run pins st σ H Q I (s M ρ σ H q eq Q a b c d)⟩
theorem PXT.can {G : Gx} {X : Cx} {W : WX} {e : Expr} {w : WT} (h : PXT G X W e w) : PT X e (tOfT G W w) := by
  obtain ⟨t, p, s⟩ := h
  exact ⟨fun pins st σ H Q I ⟨M, ρ, q, eq, a, b, c, d⟩ => p.run pins st σ H Q I (s M ρ σ H q eq Q a b c d)⟩
theorem se_of (G : Gx) (W : WX) (w : WE) : SE G W (tOf G W w) w := fun M ρ σ H q eq Q a b c d => ⟨M, ρ, q, eq, a, b, c, d⟩
theorem st_of (G : Gx) (W : WX) (w : WT) : STt G W (tOfT G W w) w := fun M ρ σ H q eq Q a b c d => ⟨M, ρ, q, eq, a, b, c, d⟩

/-- what stood at a call's beginning (or a loop's) -/
structure Cxt where
  M0 : List Addr
  V0 : Addr → Prop
  H0 : Hp
  σ0 : L2.St
  pins : List Nat
  frs : List (List Addr × Hp)
  hV : ∀ a, V0 a → ∃ i ∈ pins, σ0[i]? = some (some (.ref a))
  T : List (Addr × Str)
  hM : ∀ a ∈ M0, ∃ o, H0 a = some o ∧ (NoT o ∨ ∃ p ∈ T, p.1 = a)
structure RepS (G : Gx) (c : Cxt) (M : List Addr) (ρ : Env) (σ : L2.St) (H : Hp) : Prop where
  rep : Rep G M ρ σ H
  sub : ∀ a ∈ c.M0, a ∈ M
  kp : Keep c.V0 c.H0 H
  own : ∀ a, Seen ρ σ a → c.V0 a ∨ New c.H0 a
  pin : ∀ i ∈ c.pins, σ[i]? = c.σ0[i]? ∧ ∃ d, ρ[i]? = some (.ow d)
  old : ∀ a, New H a → New c.H0 a
  new : ∀ a ∈ M, a ∈ c.M0 ∨ New c.H0 a
  tT : c.T = G.tabs
  fr : ∀ f ∈ c.frs, Ex (Fz f.1 f.2) (Fz M H)
structure PEnds where
  pins : List Nat
  nx : Env → Prop
  rt : Src → Env → Prop
  /-- a new container is handed back -/
  rn : D → Env → Prop := fun _ _ => False
  bk : Env → Prop := fun _ => False
  ct : Env → Prop := fun _ => False
  ex : EQ
abbrev WS := PEnds → Env → Prop
structure EndsOk (G : Gx) (W : WX) (c : Cxt) (Z : Ends) (P : PEnds) : Prop where
  pins : P.pins = c.pins
  nx : ∀ M ρ σ H, RepS G c M ρ σ H → P.nx ρ → Z.nx σ H
  rt : ∀ s M ρ σ v H, RepS G c M ρ σ H → RS G M ρ σ H v s → P.rt s ρ → Z.rt v H
  rn : ∀ d M ρ σ a H, RepS G c M ρ σ H → a ∉ M → New c.H0 a → Rep G (a :: M) ρ σ H → Own G (a :: M) H a d → P.rn d ρ → Z.rt (.ref a) H
  bk : ∀ M ρ σ H, RepS G c M ρ σ H → P.bk ρ → Z.bk σ H
  ct : ∀ M ρ σ H, RepS G c M ρ σ H → P.ct ρ → Z.ct σ H
  ex : ∀ C ns vs M ρ σ dx H, RepS G c M ρ σ H → XdAt G M H dx ns vs → P.ex C ns vs ρ → W (.ref (G.cl C)) dx σ H
def SS (G : Gx) (W : WX) (t : TS) (w : WS) : Prop := ∀ c M ρ σ H Z P, RepS G c M ρ σ H → w P ρ → EndsOk G W c Z P → t Z σ H
structure PY (G : Gx) (X : Cx) (W : WX) (st : Stmt) (w : WS) : Prop where
  ex : ∃ t, PS X st t ∧ SS G W t w
structure PYs (G : Gx) (X : Cx) (W : WX) (st : List Stmt) (w : WS) : Prop where
  ex : ∃ t, PSs X st t ∧ SS G W t w
def tOfS (G : Gx) (W : WX) (w : WS) : TS := fun Z σ H => ∃ c M ρ P, RepS G c M ρ σ H ∧ w P ρ ∧ EndsOk G W c Z P
theorem PYs.can {G : Gx} {X : Cx} {W : WX} {e : List Stmt} {w : WS} (h : PYs G X W e w) : PSs X e (tOfS G W w) := by
  obtain ⟨t, p, s⟩ := h
  exact ⟨fun pins st σ H Z I ⟨c, M, ρ, P, a, b, d⟩ => p.run pins st σ H Z I (s c M ρ σ H Z P a b d)⟩
theorem ss_of (G : Gx) (W : WX) (w : WS) : SS G W (tOfS G W w) w := fun c M ρ σ H Z P a b d => ⟨c, M, ρ, P, a, b, d⟩
section
variable {G : Gx} {X : Cx} {W : WX} {c : Cxt} {M : List Addr} {ρ ρ1 : Env} {σ : L2.St} {H H1 : Hp} {Z : Ends} {P : PEnds}
theorem RepS.go (r : RepS G c M ρ σ H) (g : Go G M σ ρ H ρ1 H1) : RepS G c M ρ1 σ H1 := by
  refine ⟨g.rep, r.sub, fun b o h n t => ?_, fun a h => r.own a (g.kin.seen.mp h), fun i hi => ⟨(r.pin i hi).1, (g.kin.ow i).mpr (r.pin i hi).2⟩, fun a h => ?_, r.new, r.tT, fun f hf => (r.fr f hf).trans (g.fz r.rep)⟩
  · refine g.kp b o (r.kp b o h n t) (fun z => ?_) t
    rcases r.own b z with q | q
    · exact n q
    · exact q o h t
  · refine r.old a fun o e t => ?_
    by_cases sn : Seen ρ σ a
    · obtain ⟨i, d, h1, h2⟩ := g.kin.seen.mpr sn
      obtain ⟨b, e1, m, w⟩ := g.rep.ow i d h1
      rw [h2] at e1
      cases e1
      obtain ⟨o', e', n', _⟩ := w.pl
      exact h o' e' n'
    · exact h o (g.kp a o e sn t) t
theorem EndsOk.thr (k : EndsOk G W c Z P) (r : RepS G c M ρ σ H) : Thr G M W σ ρ H P.ex := fun C ns vs ρ' dx H' g x e => k.ex C ns vs M ρ' σ dx H' (r.go g) x e
/-- the value alone -/
def Src.val' (s : Src) (k : D → Prop) : Prop := match s with
  | .val d => k d
  | _ => False
theorem RS.val' {v : V} {s : Src} {k : D → Prop} (h : RS G M ρ σ H v s) (w : s.val' k) : ∃ d, R G (Fz M H) v d ∧ k d := by
  cases s with
  | val d => exact ⟨d, h, w⟩
  | slot i => exact w.elim
variable {st : Stmt} {rest : List Stmt} {e : Expr} {pos : Pos} {wa wb : WS} {we : WE} {wt : WT}
def wNext : WS := fun P ρ => P.nx ρ
def wSeq (wa wb : WS) : WS := fun P ρ => wa { P with nx := fun ρ' => wb P ρ' } ρ
theorem EndsOk.with {D' : L2.St → Hp → Prop} {P' : Env → Prop} (k : EndsOk G W c Z P) (h : ∀ M ρ σ H, RepS G c M ρ σ H → P' ρ → D' σ H) : EndsOk G W c { Z with nx := D' } { P with nx := P' } := ⟨k.pins, h, k.rt, k.rn, k.bk, k.ct, k.ex⟩
theorem py_nil : PYs G X W [] wNext := ⟨_, pss_nil, fun c M ρ σ H Z P r w k => k.nx M ρ σ H r w⟩
theorem py_cons (h1 : PY G X W st wa) (h2 : PYs G X W rest wb) : PYs G X W (st :: rest) (wSeq wa wb) := by
  obtain ⟨t1, p1, s1⟩ := h1
  obtain ⟨t2, p2, s2⟩ := h2
  exact ⟨_, pss_cons p1 p2, fun c M ρ σ H Z P r w k => s1 c M ρ σ H _ _ r w (k.with fun M1 ρ1 σ1 H1 r1 w1 => s2 c M1 ρ1 σ1 H1 Z P r1 w1 k)⟩
theorem py_one (h1 : PY G X W st wa) : PYs G X W [st] wa := by
  obtain ⟨t1, p1, s1⟩ := h1
  exact ⟨_, pss_one p1, s1⟩
theorem py_pass : PY G X W (.Pass pos) wNext := ⟨_, ps_pass, fun c M ρ σ H Z P r w k => k.nx M ρ σ H r w⟩
theorem py_doc {x j pos'} : PY G X W (.Expr (.Constant (.str x) j pos) pos') wNext := ⟨_, ps_doc, fun c M ρ σ H Z P r w k => k.nx M ρ σ H r w⟩
def wBreak : WS := fun P ρ => P.bk ρ
def wCont : WS := fun P ρ => P.ct ρ
theorem py_break : PY G X W (.Break pos) wBreak := ⟨_, ps_break, fun c M ρ σ H Z P r w k => k.bk M ρ σ H r w⟩
theorem py_continue : PY G X W (.Continue pos) wCont := ⟨_, ps_continue, fun c M ρ σ H Z P r w k => k.ct M ρ σ H r w⟩
def wDrop (we : WE) : WS := fun P ρ => we ρ (fun _ ρ1 => P.nx ρ1) P.ex
theorem py_expr (h : PX G X W e we) (hs : swapsWith e none pos.line X.env = pure false := by rfl) : PY G X W (.Expr e pos) (wDrop we) := by
  obtain ⟨t, p, s⟩ := h
  exact ⟨_, ps_expr p hs, fun c M ρ σ H Z P r w k => s M ρ σ H _ _ _ r.rep w (fun _ ρ' _ H' g _ q => k.nx M ρ' σ H' (r.go g) q) (k.thr r)⟩
def wRet (we : WE) : WS := fun P ρ => we ρ (fun s ρ1 => P.rt s ρ1) P.ex
theorem py_ret (h : PX G X W e we) : PY G X W (.Return (some e) pos) (wRet we) := by
  obtain ⟨t, p, s⟩ := h
  exact ⟨_, ps_ret p, fun c M ρ σ H Z P r w k => s M ρ σ H _ _ _ r.rep w (fun s ρ' v H' g rs q => k.rt s M ρ' σ v H' (r.go g) rs q) (k.thr r)⟩
def wRetN : WS := fun P ρ => P.rt (.val .non) ρ
theorem py_retN : PY G X W (.Return none pos) wRetN := ⟨_, ps_retN, fun c M ρ σ H Z P r w k => k.rt (.val .non) M ρ σ _ H r R.non w⟩
def wIfS (wt : WT) (wa wb : WS) : WS := fun P ρ => wt ρ (fun b ρ1 => if b = true then wa P ρ1 else wb P ρ1) P.ex
theorem py_if {t : Expr} {a b : List Stmt} (ht : PXT G X W t wt) (ha : PYs G X W a wa) (hb : PYs G X W b wb) : PY G X W (.If t a b pos) (wIfS wt wa wb) := by
  obtain ⟨tt, pt, stt⟩ := ht
  obtain ⟨ta, pa, sa⟩ := ha
  obtain ⟨tb, pb, sb⟩ := hb
  refine ⟨_, ps_if pt pa pb, fun c M ρ σ H Z P r w k => stt M ρ σ H _ _ _ r.rep w (fun b ρ' H' g q => ?_) (k.thr r)⟩
  cases b with
  | true => rw [if_pos rfl] at q ⊢; exact sa c M ρ' σ H' Z P (r.go g) q k
  | false => rw [if_neg Bool.false_ne_true] at q ⊢; exact sb c M ρ' σ H' Z P (r.go g) q k
/-- the joining of ways behind an if -/
def wJoin (wa wb : WS) : WS := fun P ρ => ∃ I : Env → Prop, wa { P with nx := I } ρ ∧ ∀ ρ', I ρ' → wb P ρ'
theorem py_join (h1 : PY G X W st wa) (h2 : PYs G X W rest wb) : PYs G X W (st :: rest) (wJoin wa wb) := by
  obtain ⟨t1, p1, s1⟩ := h1
  obtain ⟨t2, p2, s2⟩ := h2
  exact ⟨_, pss_cons p1 p2, fun c M ρ σ H Z P r ⟨I, w1, w2⟩ k => s1 c M ρ σ H _ _ r w1 (k.with fun M1 ρ1 σ1 H1 r1 q => s2 c M1 ρ1 σ1 H1 Z P r1 (w2 ρ1 q) k)⟩
/-! ### slots set -/
theorem rep_set (r : Rep G M ρ σ H) {i : Nat} {v : V} {d : D} (h : R G (Fz M H) v d) : Rep G M (ρ.set i (.fz d)) (σ.set i (some v)) H := by
  refine ⟨by rw [List.length_set, List.length_set, r.len], fun j d' hj => ?_, fun j d' hj => ?_, fun j k a d1 d2 h1 h2 h3 h4 => ?_, r.trk, r.tab, r.tm⟩
  · rw [List.getElem?_set] at hj
    rw [List.getElem?_set]
    by_cases hij : i = j
    · rw [if_pos hij] at hj ⊢
      split at hj
      · rename_i hl
        cases hj
        rw [if_pos (by rw [← r.len]; exact hl)]
        exact ⟨v, rfl, h⟩
      · cases hj
    · rw [if_neg hij] at hj ⊢
      exact r.fz j d' hj
  · rw [List.getElem?_set] at hj
    rw [List.getElem?_set]
    by_cases hij : i = j
    · rw [if_pos hij] at hj
      split at hj <;> cases hj
    · rw [if_neg hij] at hj ⊢
      exact r.ow j d' hj
  · rw [List.getElem?_set] at h1 h2 h3 h4
    by_cases hij : i = j
    · rw [if_pos hij] at h1
      split at h1 <;> cases h1
    · by_cases hik : i = k
      · rw [if_pos hik] at h2
        split at h2 <;> cases h2
      · rw [if_neg hij] at h1 h3
        rw [if_neg hik] at h2 h4
        exact r.inj j k a d1 d2 h1 h2 h3 h4
theorem seen_set {i : Nat} {v : V} {d : D} {a : Addr} (h : Seen (ρ.set i (.fz d)) (σ.set i (some v)) a) : Seen ρ σ a := by
  obtain ⟨j, d', h1, h2⟩ := h
  rw [List.getElem?_set] at h1 h2
  by_cases hij : i = j
  · rw [if_pos hij] at h1
    split at h1 <;> cases h1
  · rw [if_neg hij] at h1 h2
    exact ⟨j, d', h1, h2⟩
/-- slots of the list alone have turned, to values -/
structure Diff (is : List Nat) (ρ : Env) (σ : L2.St) (ρ' : Env) (σ' : L2.St) : Prop where
  out : ∀ j, j ∉ is → ρ'[j]? = ρ[j]? ∧ σ'[j]? = σ[j]?
  no : ∀ j ∈ is, ∀ d, ρ'[j]? ≠ some (.ow d)
  len : σ'.length = σ.length
theorem Diff.seen {is : List Nat} {ρ' : Env} {σ' : L2.St} (d : Diff is ρ σ ρ' σ') {a : Addr} (h : Seen ρ' σ' a) : Seen ρ σ a := by
  obtain ⟨j, e, h1, h2⟩ := h
  by_cases hj : j ∈ is
  · exact absurd h1 (d.no j hj e)
  · obtain ⟨x, y⟩ := d.out j hj
    exact ⟨j, e, by rw [← x]; exact h1, by rw [← y]; exact h2⟩
theorem RepS.diff (r : RepS G c M ρ σ H) {is : List Nat} {ρ' : Env} {σ' : L2.St} {H' : Hp} (rp : Rep G M ρ' σ' H') (e : Ex H H') (d : Diff is ρ σ ρ' σ') (hp : ∀ i ∈ is, i ∉ c.pins) : RepS G c M ρ' σ' H' := by
  refine ⟨rp, r.sub, r.kp.trans (.of_ex e), fun a h => r.own a (d.seen h), fun i hi => ?_, fun a h => r.old a fun o q => h o (e a o q), r.new, r.tT, fun f hf => (r.fr f hf).trans (fz_step e)⟩
  · obtain ⟨x, y⟩ := d.out i fun z => hp i z hi
    rw [x, y]
    exact r.pin i hi
abbrev WG := D → Env → (Env → Prop) → Prop
abbrev WGs := List D → Env → (Env → Prop) → Prop
def SG (G : Gx) (is : List Nat) (t : TG) (w : WG) : Prop := ∀ M ρ σ H v d Q k, Rep G M ρ σ H → R G (Fz M H) v d → w d ρ k → (∀ ρ' σ' H', Rep G M ρ' σ' H' → Ex H H' → Diff is ρ σ ρ' σ' → k ρ' → Q σ' H') → t v σ H Q
def SGs (G : Gx) (is : List Nat) (t : TGs) (w : WGs) : Prop := ∀ M ρ σ H vs ds Q k, Rep G M ρ σ H → RAll G (Fz M H) vs ds → w ds ρ k → (∀ ρ' σ' H', Rep G M ρ' σ' H' → Ex H H' → Diff is ρ σ ρ' σ' → k ρ' → Q σ' H') → t vs σ H Q
structure PXG (G : Gx) (X : Cx) (is : List Nat) (e : Expr) (w : WG) : Prop where
  ex : ∃ t, PG X e t ∧ SG G is t w
structure PXGs (G : Gx) (X : Cx) (is : List Nat) (es : List Expr) (w : WGs) : Prop where
  ex : ∃ t, PGs X es t ∧ SGs G is t w
def tOfG (G : Gx) (is : List Nat) (w : WG) : TG := fun v σ H Q => ∃ M ρ d k, Rep G M ρ σ H ∧ R G (Fz M H) v d ∧ w d ρ k ∧ ∀ ρ' σ' H', Rep G M ρ' σ' H' → Ex H H' → Diff is ρ σ ρ' σ' → k ρ' → Q σ' H'
theorem PXG.can {is : List Nat} {w : WG} (h : PXG G X is e w) : PG X e (tOfG G is w) := by
  obtain ⟨t, p, s⟩ := h
  exact ⟨fun pins st σ H v u Q I r ⟨M, ρ, d, k, a, b, c, d'⟩ => p.run pins st σ H v u Q I r (s M ρ σ H v d Q k a b c d')⟩
theorem sg_of (G : Gx) (is : List Nat) (w : WG) : SG G is (tOfG G is w) w := fun M ρ σ H v d Q k a b c d' => ⟨M, ρ, d, k, a, b, c, d'⟩
def wgName (i : Nat) : WG := fun d ρ k => k (ρ.set i (.fz d))
theorem diff_set {i : Nat} {v : V} {d : D} : Diff [i] ρ σ (ρ.set i (.fz d)) (σ.set i (some v)) := by
  refine ⟨fun j hj => ?_, fun j hj e z => ?_, List.length_set⟩
  · have : i ≠ j := fun e => hj (by rw [e]; exact List.mem_singleton.mpr rfl)
    rw [List.getElem?_set_ne this, List.getElem?_set_ne this]
    exact ⟨rfl, rfl⟩
  · rw [List.mem_singleton.mp hj, List.getElem?_set] at z
    rw [if_pos rfl] at z
    split at z <;> cases z
theorem pxg_name (i : Nat) {x : Str} (hN : X.N.Nodup) (hi : X.N[i]? = some x) (hx : Loc X.env.scope x) (hf : X.fn x = true ∨ X.env.scope.names.lookup x = some .local := by first | exact .inl rfl | exact .inr rfl | assumption) : PXG G X [i] (.Name x pos) (wgName i) :=
  ⟨_, pg_name hN hi hx hf, fun M ρ σ H v d Q k r rd w q => q _ _ H (rep_set r rd) (Ex.refl _) diff_set w⟩
def wgNil : WGs := fun ds ρ k => ds = [] ∧ k ρ
def wgCons (w : WG) (ws : WGs) : WGs := fun ds ρ k => match ds with
  | d :: r => w d ρ fun ρ1 => ws r ρ1 k
  | [] => False
theorem diff_refl : Diff [] ρ σ ρ σ := ⟨fun _ _ => ⟨rfl, rfl⟩, fun _ h => (nomatch h), rfl⟩
theorem Diff.trans {is js : List Nat} {ρ' ρ'' : Env} {σ' σ'' : L2.St} (a : Diff is ρ σ ρ' σ') (b : Diff js ρ' σ' ρ'' σ'') : Diff (is ++ js) ρ σ ρ'' σ'' := by
  refine ⟨fun j hj => ?_, fun j hj d z => ?_, b.len.trans a.len⟩
  · rw [List.mem_append, not_or] at hj
    obtain ⟨x, y⟩ := b.out j hj.2
    obtain ⟨x', y'⟩ := a.out j hj.1
    exact ⟨x.trans x', y.trans y'⟩
  · by_cases h2 : j ∈ js
    · exact b.no j h2 d z
    · rcases List.mem_append.mp hj with h | h
      · rw [(b.out j h2).1] at z; exact a.no j h d z
      · exact h2 h
theorem pxgs_nil : PXGs G X [] [] wgNil := ⟨_, pgs_nil, fun M ρ σ H vs ds Q k r rd w q => by
  obtain ⟨rfl, w⟩ := w
  cases rd
  exact ⟨rfl, q _ _ H r (Ex.refl _) diff_refl w⟩⟩
theorem pxgs_cons {is js : List Nat} {es : List Expr} {w : WG} {ws : WGs} (h1 : PXG G X is e w) (h2 : PXGs G X js es ws) (hs : (assignEach (e :: es) X.env).map (·.2) = assign e X.env :: (assignEach es X.env).map (·.2) := by rfl) : PXGs G X (is ++ js) (e :: es) (wgCons w ws) := by
  obtain ⟨t1, p1, s1⟩ := h1
  obtain ⟨t2, p2, s2⟩ := h2
  refine ⟨_, pgs_cons p1 p2 hs, fun M ρ σ H vs ds Q k r rd w q => ?_⟩
  cases rd with
  | nil => exact w.elim
  | cons a b =>
    refine ⟨_, _, rfl, s1 M ρ σ H _ _ _ _ r a w fun ρ1 σ1 H1 r1 e1 d1 w1 => ?_⟩
    exact s2 M ρ1 σ1 H1 _ _ _ _ r1 (b.ex (fz_step e1)) w1 fun ρ2 σ2 H2 r2 e2 d2 k2 => q ρ2 σ2 H2 r2 (e1.trans e2) (d1.trans d2) k2
def wgTup (n : Nat) (ws : WGs) : WG := fun d ρ k => match d with
  | .tup ds => ds.length = n ∧ ws ds ρ k
  | _ => False
theorem pxg_tup {is : List Nat} {es : List Expr} {kk : Nat} {ws : WGs} {n : Nat} (hc : X.calm = true) (h : PXGs G X is es ws) (hn : (assignEach es X.env).length = n := by rfl) (hst : (assignEach es X.env).findIdx? (·.1) = none := by rfl) (hK : X.K = G.K := by rfl) :
    PXG G X is (.Tuple es kk pos) (wgTup n ws) := by
  obtain ⟨t, p, s⟩ := h
  refine ⟨_, pg_tup hc p hn hst, fun M ρ σ H v d Q k r rd w q => ?_⟩
  unfold wgTup at w
  split at w
  · obtain ⟨a, xs, rfl, h1, h2⟩ := rd.tup_inv
    rw [hK]
    exact ⟨a, xs, rfl, sqT_ex (fz_ex _ _) h1, by rw [h2.len]; exact w.1, s M ρ σ H _ _ _ _ r h2 w.2 q⟩
  · exact w.elim
/-- x, *rest = a list or a tuple -/
def wgStar (ws : WGs) : WG := fun d ρ k => match d with
  | .lst (d :: ds) => ws [d, .lst ds] ρ k
  | .tup (d :: ds) => ws [d, .lst ds] ρ k
  | _ => False
theorem pxg_star {is : List Nat} {e1 e2 : Expr} {kk : Nat} {p : Pos} {ws : WGs} (hc : X.calm = true) (h : PXGs G X is [e1, e2] ws) (hK : X.K = G.K := by rfl)
    (hl : (assignEach [e1, .Starred e2 p] X.env).length = 2 := by rfl) (hst : (assignEach [e1, .Starred e2 p] X.env).findIdx? (·.1) = some 1 := by rfl)
    (hm : (assignEach [e1, .Starred e2 p] X.env).map (·.2) = (assignEach [e1, e2] X.env).map (·.2) := by rfl) : PXG G X is (.Tuple [e1, .Starred e2 p] kk pos) (wgStar ws) := by
  obtain ⟨t, pp, s⟩ := h
  refine ⟨_, pg_star (K := G.K) hc pp hK hl hst hm, fun M ρ σ H v d Q k r rd w q => ?_⟩
  have fin : ∀ (x : V) (xs : List V) (d : D) (ds : List D), RAll G (Fz M H) (x :: xs) (d :: ds) → ws [d, .lst ds] ρ k → ∀ L, H L = none → t [x, .ref L] σ (upd H L (.lst xs)) Q := by
    intro x xs d ds ra wr L hL
    cases ra with | cons h1 h2 =>
    have e := Ex.new (o := .lst xs) hL
    exact s M ρ σ _ _ _ _ _ (r.ex e) (.cons (h1.ex (fz_step e)) (.cons (r_new_lst r.tr hL h2) .nil)) wr fun ρ2 σ2 H2 r2 e2 d2 k2 => q ρ2 σ2 H2 r2 (e.trans e2) d2 k2
  unfold wgStar at w
  split at w
  · obtain ⟨a, xs, rfl, h1, h2⟩ := rd.lst_inv
    cases h2 with | cons x y => exact ⟨a, _, _, rfl, .inl (SqL.of (fz_ex _ _ _ _ h1)), fin _ _ _ _ (.cons x y) w⟩
  · obtain ⟨a, xs, rfl, h1, h2⟩ := rd.tup_inv
    cases h2 with | cons x y => exact ⟨a, _, _, rfl, .inr (sqT_ex (fz_ex _ _) h1), fin _ _ _ _ (.cons x y) w⟩
  · exact w.elim
/-! ### assignments of values -/
def wAsg (is : List Nat) (we : WE) (wg : WG) : WS := fun P ρ => we ρ (fun s ρ1 => s.val' fun d => (∀ i ∈ is, i ∉ P.pins) ∧ wg d ρ1 P.nx) P.ex
theorem ss_asg {is : List Nat} {te : TE} {tg : TG} {wg : WG} (he : SE G W te we) (hg : SG G is tg wg) : SS G W (tAsg te tg) (wAsg is we wg) := by
  intro c M ρ σ H Z P r w k
  refine he M ρ σ H _ _ _ r.rep w (fun s ρ1 v H1 g rs q => ?_) (k.thr r)
  obtain ⟨d, rd, hp, w2⟩ := rs.val' q
  have r1 := r.go g
  exact hg M ρ1 σ H1 v d _ _ r1.rep rd w2 fun ρ' σ' H' r' e' d' k' => k.nx M ρ' σ' H' (r1.diff r' e' d' (by rw [← k.pins]; exact hp)) k'
theorem py_asg {tg : Expr} {is : List Nat} {wg : WG} (he : PX G X W e we) (hg : PXG G X is tg wg) (hs : swapsWithSole [tg] e pos.line X.env = pure false := by rfl) (hw : swappedStores [tg] e X.env = pure none := by rfl)
    (h1 : (assignEach [tg] X.env).map (·.2) = [assign tg X.env] := by rfl) : PY G X W (.Assign [tg] e pos) (wAsg is we wg) := by
  obtain ⟨te, pe, se⟩ := he
  obtain ⟨tg', pg, sg⟩ := hg
  exact ⟨_, ps_asg pe pg hs hw h1, ss_asg se sg⟩
theorem py_set (i : Nat) {x : Str} {pos' : Pos} (hN : X.N.Nodup) (hi : X.N[i]? = some x) (hx : Loc X.env.scope x) (he : PX G X W e we) (hs : swapsWith e (some (.Name x pos')) pos.line X.env = pure false := by rfl)
    (hf : X.fn x = true ∨ X.env.scope.names.lookup x = some .local := by first | exact .inl rfl | exact .inr rfl | assumption) : PY G X W (.Assign [.Name x pos'] e pos) (wAsg [i] we (wgName i)) := by
  obtain ⟨te, pe, se⟩ := he
  exact ⟨_, ps_set hN hi hx pe hs hf, ss_asg se fun M ρ σ H v d Q k r rd w q => q _ _ H (rep_set r rd) (Ex.refl _) diff_set w⟩
/-- a, b = x, y -/
def wPar (i j : Nat) (wa : WA) : WS := fun P ρ => wa ρ (fun ss ρ1 => ValsD ss fun ds => match ds with
  | [d1, d2] => i ∉ P.pins ∧ j ∉ P.pins ∧ P.nx ((ρ1.set i (.fz d1)).set j (.fz d2))
  | _ => False) P.ex
theorem py_par (i j : Nat) {x y : Str} {a b : Expr} {wa : WA} {px py pt : Pos} {kt k2 pt2} (hc : X.calm = true) (hN : X.N.Nodup) (hi : X.N[i]? = some x) (hj : X.N[j]? = some y) (hij : i ≠ j)
    (hx : X.env.scope.names.lookup x = some .local) (hy : X.env.scope.names.lookup y = some .local) (ha : PXA G X W [a, b] wa)
    (hw : swappedStores [.Tuple [.Name x px, .Name y py] kt pt] (.Tuple [a, b] k2 pt2) X.env = pure (some [x, y]) := by rfl)
    (hs : swapsWithSole [.Tuple [.Name x px, .Name y py] kt pt] (.Tuple [a, b] k2 pt2) pos.line X.env = pure false := by rfl) :
    PY G X W (.Assign [.Tuple [.Name x px, .Name y py] kt pt] (.Tuple [a, b] k2 pt2) pos) (wPar i j wa) := by
  obtain ⟨ta, pa, sa⟩ := ha
  refine ⟨_, ps_par hc hN hi hj hij hx hy pa hw hs, fun c M ρ σ H Z P r w k => sa M ρ σ H _ _ _ r.rep w (fun ss ρ1 vs H1 g rs q => ?_) (k.thr r)⟩
  obtain ⟨ds, ra, q⟩ := rs.vals q
  split at q
  · rename_i e1 e2
    obtain ⟨v1, v2, rfl, h1, h2⟩ : ∃ v1 v2, vs = [v1, v2] ∧ R G (Fz M H1) v1 e1 ∧ R G (Fz M H1) v2 e2 := by
      cases ra with | cons h1 h2 => cases h2 with | cons h2 h3 => cases h3; exact ⟨_, _, rfl, h1, h2⟩
    refine ⟨_, _, rfl, ?_⟩
    have r1 := r.go g
    refine k.nx M _ _ _ (r1.diff (is := [i, j]) (rep_set (rep_set r1.rep h1) h2) (Ex.refl _) (diff_set.trans diff_set) ?_) q.2.2
    rw [← k.pins]
    intro n hn
    rcases List.mem_cons.mp hn with rfl | hn
    · exact q.1
    · rw [List.mem_singleton.mp hn]; exact q.2.1
  · exact q.elim
/-- x += e -/
def wAug (i : Nat) (op : Op2) (we : WE) : WS := fun P ρ => match ρ[i]? with
  | some (.fz d1) => we ρ (fun s ρ1 => s.gets ρ1 fun d2 => op d1 d2 fun d => i ∉ P.pins ∧ P.nx (ρ1.set i (.fz d))) P.ex
  | _ => False
def IpS (G : Gx) (op : Op2) (r : TIp) : Prop := OpS G op r
theorem py_aug (i : Nat) {x : Str} {op : Operator} {ti : TIp} {o2 : Op2} {pos' : Pos} (hN : X.N.Nodup) (hi : X.N[i]? = some x) (hx : Loc X.env.scope x) (ho : PIp X op ti) (hs : IpS G o2 ti) (he : PX G X W e we)
    (hf : X.fn x = true ∨ X.env.scope.names.lookup x = some .local := by first | exact .inl rfl | exact .inr rfl | assumption) : PY G X W (.AugAssign (.Name x pos') op e pos) (wAug i o2 we) := by
  obtain ⟨te, pe, se⟩ := he
  refine ⟨_, ps_aug hN hi hx pe ho hf, fun c M ρ σ H Z P r w k => ?_⟩
  unfold wAug at w
  split at w
  · rename_i d1 hd
    obtain ⟨v, h1, h2⟩ := r.rep.fz i d1 hd
    refine ⟨v, h1, se M ρ σ H _ _ _ r.rep w (fun s ρ1 y H1 g rs q => ?_) (k.thr r)⟩
    obtain ⟨d2, a2, q⟩ := rs.arg g.rep q
    refine hs M H1 v y d1 d2 _ g.rep.tr (.fz (h2.ex (g.fz r.rep))) a2 q _ fun d u H2 e rd kd => ?_
    have r1 := (r.go g).go (Go.ex g.rep e)
    exact k.nx M _ _ _ (r1.diff (is := [i]) (rep_set r1.rep rd) (Ex.refl _) diff_set (by rw [← k.pins]; intro n hn; rw [List.mem_singleton.mp hn]; exact kd.1)) kd.2
  · exact w.elim
def dIAdd : Op2 := fun x y k => match x, y with
  | .int i, .int j => k (.int (i + j))
  | _, _ => False
def dISub : Op2 := fun x y k => match x, y with
  | .int i, .int j => k (.int (i - j))
  | _, _ => False
theorem iadd_s : IpS G dIAdd (ipI fun i j => i + j) := by
  intro M H x y d1 d2 k t a1 a2 h Q q
  unfold dIAdd at h
  split at h
  · exact ⟨_, _, a1.int, a2.int, q (.int _) _ H (Ex.refl _) (R.int _) h⟩
  · exact h.elim
theorem isub_s : IpS G dISub (ipI fun i j => i - j) := by
  intro M H x y d1 d2 k t a1 a2 h Q q
  unfold dISub at h
  split at h
  · exact ⟨_, _, a1.int, a2.int, q (.int _) _ H (Ex.refl _) (R.int _) h⟩
  · exact h.elim
/-! ### while -/
def wWhile (wt : WT) (wb : WS) : WS := fun P ρ => ∃ I : Nat → Env → Prop, (∃ m, I m ρ) ∧ ∀ m ρ, I m ρ → wt ρ (fun b ρ1 => if b = true then wb { P with nx := fun ρ' => ∃ m', m' < m ∧ I m' ρ', ct := fun ρ' => ∃ m', m' < m ∧ I m' ρ', bk := P.nx } ρ1 else P.nx ρ1) P.ex
theorem py_while {t : Expr} {body : List Stmt} (hp : PassesOwn (model X.prog X.w) X.A X.env X.xe) (ht : PXT G X W t wt) (hb : PYs G X W body wb) : PY G X W (.While t body [] pos) (wWhile wt wb) := by
  obtain ⟨tt, pt, stt⟩ := ht
  obtain ⟨tb, pb, sb⟩ := hb
  refine ⟨_, ps_while hp pt pb, fun c M ρ σ H Z P r ⟨I, ⟨m0, h0⟩, turn⟩ k => ?_⟩
  refine ⟨fun m σ H => ∃ M ρ, RepS G c M ρ σ H ∧ I m ρ, ⟨m0, M, ρ, r, h0⟩, ?_⟩
  rintro m σ1 H1 ⟨M1, ρ1, r1, h1⟩
  refine stt M1 ρ1 σ1 H1 _ _ _ r1.rep (turn m ρ1 h1) (fun b ρ2 H2 g q => ?_) (k.thr r1)
  cases b with
  | false => rw [if_neg Bool.false_ne_true] at q ⊢; exact k.nx M1 ρ2 σ1 H2 (r1.go g) q
  | true =>
    rw [if_pos rfl] at q ⊢
    refine ⟨fun σ' H' => ∃ m', m' < m ∧ ∃ M ρ, RepS G c M ρ σ' H' ∧ I m' ρ, fun _ _ z => z, sb c M1 ρ2 σ1 H2 _ _ (r1.go g) q ⟨k.pins, fun M3 ρ3 σ3 H3 r3 ⟨m', hm, i3⟩ => ⟨m', hm, M3, ρ3, r3, i3⟩, k.rt, k.rn, fun M3 ρ3 σ3 H3 r3 q3 => k.nx M3 ρ3 σ3 H3 r3 q3, fun M3 ρ3 σ3 H3 r3 ⟨m', hm, i3⟩ => ⟨m', hm, M3, ρ3, r3, i3⟩, k.ex⟩⟩
end
end Pu
/-! ### the pure layer: loops and comprehensions -/
namespace Pu
open PySem PySem.Spec PyProof.Rows L2 Lk Evl
/-- while the values stand, J gives the items ds -/
structure Fd (G : Gx) (M1 : List Addr) (H1 : Hp) (J : It) (ds : List D) : Prop where
  go : ∀ i M H, Ex (Fz M1 H1) (Fz M H) → i < ds.length → J.go i H
  yld : ∀ i M H x H', Ex (Fz M1 H1) (Fz M H) → Trk M H → i < ds.length → J.yld i H x H' → Ex H H' ∧ ∃ d, ds[i]? = some d ∧ R G (Fz M H') x d
  stop : ∀ M H, Ex (Fz M1 H1) (Fz M H) → J.stop ds.length H
abbrev WI := Env → (List D → Env → Prop) → EQ → Prop
def SI (G : Gx) (W : WX) (t : TI) (w : WI) : Prop := ∀ M ρ σ H q eq R, Rep G M ρ σ H → w ρ q eq → (∀ ds ρ' H' J, Go G M σ ρ H ρ' H' → Fd G M H' J ds → q ds ρ' → R J H') → Thr G M W σ ρ H eq → t σ H R
structure PXI (G : Gx) (X : Cx) (W : WX) (tg e : Expr) (w : WI) : Prop where
  ex : ∃ t, PI X tg e t ∧ SI G W t w
section
variable {G : Gx} {X : Cx} {W : WX} {M M1 : List Addr} {ρ : Env} {σ : L2.St} {H H1 : Hp} {e tg : Expr} {we : WE} {pos p : Pos}
/-! ### sources -/
def iAny (K : PySem.W.Frag) (te : TE) : TI := fun σ H R => te σ H fun x H1 => (∃ a, x = .ref a ∧ (∃ xs, SqL K H1 a xs) ∧ R (Itl K a) H1) ∨ (∃ a, x = .ref a ∧ (∃ xs, SqT K H1 a xs) ∧ R (Itt K a) H1) ∨ ∃ z, x = .str z ∧ R (Its z) H1
theorem pi_any {te : TE} (he : PE X e te) (hK : X.K = G.K := by rfl) : PI X tg e (iAny G.K te) := by
  rw [← hK]
  constructor
  intro pins s σ H R I h
  refine thn (he.run pins s σ H _ I h) ?_
  rintro v s1 ⟨x, H1, I1, r1, q⟩
  have one : ∀ (o : Obj) (J : It) (tn : Nat → Heap → Prop), Turn X.prog X.w X.K tg J [s1.heap.objs.size] s1.heap.objs.size tn → tn 0 (s1.heap.push o) → R J H1 → PIE X pins σ tg R (.ref s1.heap.objs.size) { s1 with heap := s1.heap.push o } :=
    fun o J tn T st q => pi_one (tk := s1.toks) I1 o T st q
  rcases q with ⟨a, rfl, ⟨xs, hs⟩, q⟩ | ⟨a, rfl, ⟨xs, hs⟩, q⟩ | ⟨z, rfl, q⟩
  · obtain ⟨its, _, hp, _⟩ := I1.list hs
    cases r1
    exact wpAny_pyIter_list hp.isList (one _ _ _ (turn_list a _) ⟨_, Heap.get?_push_size _ rfl, rfl, rfl⟩ q)
  · obtain ⟨its, _, hp, _⟩ := I1.tuple hs
    cases r1
    exact wpAny_pyIter_tuple hp (one _ _ _ (turn_tuple a _) ⟨_, Heap.get?_push_size _ rfl, rfl, rfl⟩ q)
  · obtain ⟨t, rfl⟩ := r1
    by_cases ha : z.cps.all (· < 128) = true
    · exact wpAny_pyIter_ascii ha (one _ _ _ (turn_str _ z t "str_ascii_iterator" (.inl rfl)) ⟨_, Heap.get?_push_size _ rfl, rfl, rfl⟩ q)
    · exact wpAny_pyIter_wide (by simpa using ha) (one _ _ _ (turn_str _ z t "str_iterator" (.inr rfl)) ⟨_, Heap.get?_push_size _ rfl, rfl, rfl⟩ q)
theorem fd_list {a : Addr} {xs : List V} {ds : List D} (hs : Fz M1 H1 a = some (.lst xs)) (h : RAll G (Fz M1 H1) xs ds) : Fd G M1 H1 (Itl G.K a) ds := by
  have at' : ∀ M H, Ex (Fz M1 H1) (Fz M H) → SqL G.K H a xs := fun M H e => SqL.of (fz_ex _ _ _ _ (e _ _ hs))
  refine ⟨fun i M H e hi => ?_, fun i M H x H' e t hi y => ?_, fun M H e => ⟨xs, at' M H e, by rw [h.len]; exact Nat.le_refl _⟩⟩
  · exact ⟨xs, xs[i]'(by rw [h.len]; exact hi), at' M H e, List.getElem?_eq_getElem _⟩
  · obtain ⟨rfl, y⟩ := y
    obtain ⟨d, e1, e2⟩ := h.get' (y xs (at' M _ e))
    exact ⟨Ex.refl _, d, e1, e2.ex e⟩
theorem fd_sl {a : Addr} {xs : List V} {ds : List D} (hs : SqL G.K (Fz M1 H1) a xs) (h : RAll G (Fz M1 H1) xs ds) : Fd G M1 H1 (Itl G.K a) ds := by
  have at' : ∀ M H, Ex (Fz M1 H1) (Fz M H) → SqL G.K H a xs := fun M H e => sqL_ex (fz_ex _ _) (sqL_ex e hs)
  refine ⟨fun i M H e hi => ?_, fun i M H x H' e t hi y => ?_, fun M H e => ⟨xs, at' M H e, by rw [h.len]; exact Nat.le_refl _⟩⟩
  · exact ⟨xs, xs[i]'(by rw [h.len]; exact hi), at' M H e, List.getElem?_eq_getElem _⟩
  · obtain ⟨rfl, y⟩ := y
    obtain ⟨d, e1, e2⟩ := h.get' (y xs (at' M _ e))
    exact ⟨Ex.refl _, d, e1, e2.ex e⟩
theorem fd_tup {a : Addr} {xs : List V} {ds : List D} (hs : SqT G.K (Fz M1 H1) a xs) (h : RAll G (Fz M1 H1) xs ds) : Fd G M1 H1 (Itt G.K a) ds := by
  have at' : ∀ M H, Ex (Fz M1 H1) (Fz M H) → SqT G.K H a xs := fun M H e => sqT_ex (fz_ex _ _) (sqT_ex e hs)
  refine ⟨fun i M H e hi => ?_, fun i M H x H' e t hi y => ?_, fun M H e => ⟨xs, at' M H e, by rw [h.len]; exact Nat.le_refl _⟩⟩
  · exact ⟨xs, xs[i]'(by rw [h.len]; exact hi), at' M H e, List.getElem?_eq_getElem _⟩
  · obtain ⟨rfl, y⟩ := y
    obtain ⟨d, e1, e2⟩ := h.get' (y xs (at' M _ e))
    exact ⟨Ex.refl _, d, e1, e2.ex e⟩
abbrev sgnD (c : Nat) : D := .str (sgn c)
theorem fd_str (z : Str) : Fd G M1 H1 (Its z) (z.cps.toList.map sgnD) := by
  refine ⟨fun i M H e hi => by simpa [Its] using hi, fun i M H x H' e t hi y => ?_, fun M H e => by simp [Its]⟩
  obtain ⟨rfl, c, hc, rfl⟩ := y
  refine ⟨Ex.refl _, sgnD c, ?_, R.str _⟩
  rw [List.getElem?_map, show z.cps.toList[i]? = some c by simpa using hc]; rfl
/-- what a value holds, one by one -/
def dItems (d : D) (k : List D → Prop) : Prop := match d with
  | .lst ds => k ds
  | .sl ds => k ds
  | .tup ds => k ds
  | .str z => k (z.cps.toList.map sgnD)
  | _ => False
def wItems (we : WE) : WI := fun ρ q e => we ρ (fun s ρ1 => s.val' fun d => dItems d fun ds => q ds ρ1) e
theorem pxi_any (he : PX G X W e we) (hK : X.K = G.K := by rfl) : PXI G X W tg e (wItems we) := by
  obtain ⟨te, pe, se⟩ := he
  refine ⟨_, pi_any pe hK, fun M ρ σ H q eq R rp w k th => se M ρ σ H _ eq _ rp w (fun s ρ1 v H1 g rs q => ?_) th⟩
  obtain ⟨d, rd, q⟩ := rs.val' q
  unfold dItems at q
  split at q
  · obtain ⟨a, xs, rfl, h1, h2⟩ := rd.lst_inv
    exact .inl ⟨a, rfl, ⟨xs, SqL.of (fz_ex _ _ _ _ h1)⟩, k _ ρ1 H1 _ g (fd_list h1 h2) q⟩
  · obtain ⟨a, xs, rfl, h1, h2⟩ := rd.sl_inv
    exact .inl ⟨a, rfl, ⟨xs, sqL_ex (fz_ex _ _) h1⟩, k _ ρ1 H1 _ g (fd_sl h1 h2) q⟩
  · obtain ⟨a, xs, rfl, h1, h2⟩ := rd.tup_inv
    exact .inr (.inl ⟨a, rfl, ⟨xs, sqT_ex (fz_ex _ _) h1⟩, k _ ρ1 H1 _ g (fd_tup h1 h2) q⟩)
  · exact .inr (.inr ⟨_, rd.str_inv, k _ ρ1 H1 _ g (fd_str _) q⟩)
  · exact q.elim
/-! ### ranges -/
theorem fd_rng (lo : Int) (n : Nat) : Fd G M1 H1 (Itr lo n) ((List.range n).map fun i => D.int (lo + (i : Nat))) := by
  refine ⟨fun i M H e hi => by simpa [Itr] using hi, fun i M H x H' e t hi y => ?_, fun M H e => by simp [Itr]⟩
  obtain ⟨rfl, rfl⟩ := y
  rw [List.length_map, List.length_range] at hi
  exact ⟨Ex.refl _, .int (lo + (i : Nat)), by rw [List.getElem?_map, List.getElem?_range hi]; rfl, R.int _⟩
def wRng1 (wa : WA) : WI := fun ρ q e => wa ρ (fun ss ρ1 => gets2 ρ1 ss fun ds => match ds with
  | [.int j] => (-(2 ^ 62) ≤ j ∧ j < 2 ^ 62) ∧ q ((List.range j.toNat).map fun i => D.int (0 + (i : Nat))) ρ1
  | _ => False) e
theorem pxi_range1 {a : Expr} {wa : WA} (hg : Gl X "range") (hm : X.mg "range" = none) (ha : PXA G X W [a] wa) (hs : starEach [a] X.env = [(false, eval a X.env)] := by rfl) : PXI G X W tg (.Call (.Name "range" p) [a] [] pos) (wRng1 wa) := by
  obtain ⟨ta, pa, sa⟩ := ha
  refine ⟨_, pi_range1 hg hm pa hs, fun M ρ σ H q eq R rp w k th => sa M ρ σ H _ eq _ rp w (fun ss ρ1 vs H1 g rs q => ?_) th⟩
  obtain ⟨ds, a1, q⟩ := RSs.args g.rep rs q
  split at q
  · obtain ⟨v, rfl, a2⟩ := a1.one
    exact ⟨_, by rw [a2.int], q.1.1, q.1.2, k _ ρ1 H1 _ g (fd_rng 0 _) q.2⟩
  · exact q.elim
def wRng2 (wa : WA) : WI := fun ρ q e => wa ρ (fun ss ρ1 => gets2 ρ1 ss fun ds => match ds with
  | [.int i, .int j] => (-(2 ^ 62) ≤ i ∧ i < 2 ^ 62 ∧ -(2 ^ 62) ≤ j ∧ j < 2 ^ 62) ∧ q ((List.range (j - i).toNat).map fun n => D.int (i + (n : Nat))) ρ1
  | _ => False) e
theorem pxi_range2 {a b : Expr} {wa : WA} (hg : Gl X "range") (hm : X.mg "range" = none) (ha : PXA G X W [a, b] wa) (hs : starEach [a, b] X.env = [(false, eval a X.env), (false, eval b X.env)] := by rfl) (hs2 : starEach [b] X.env = [(false, eval b X.env)] := by rfl) :
    PXI G X W tg (.Call (.Name "range" p) [a, b] [] pos) (wRng2 wa) := by
  obtain ⟨ta, pa, sa⟩ := ha
  refine ⟨_, pi_range2 hg hm pa hs hs2, fun M ρ σ H q eq R rp w k th => sa M ρ σ H _ eq _ rp w (fun ss ρ1 vs H1 g rs q => ?_) th⟩
  obtain ⟨ds, a1, q⟩ := RSs.args g.rep rs q
  split at q
  · obtain ⟨v, u, rfl, a2, a3⟩ := a1.two
    exact ⟨_, _, by rw [a2.int, a3.int], q.1, k _ ρ1 H1 _ g (fd_rng _ _) q.2⟩
  · exact q.elim
theorem fd_rngC (lo c : Int) (n : Nat) : Fd G M1 H1 (Itc lo c n) ((List.range n).map fun i => D.int (lo + (i : Nat) * c)) := by
  refine ⟨fun i M H e hi => by simpa [Itc] using hi, fun i M H x H' e t hi y => ?_, fun M H e => by simp [Itc]⟩
  obtain ⟨rfl, rfl⟩ := y
  rw [List.length_map, List.length_range] at hi
  exact ⟨Ex.refl _, .int (lo + (i : Nat) * c), by rw [List.getElem?_map, List.getElem?_range hi]; rfl, R.int _⟩
def wRng3 (wa : WA) : WI := fun ρ q e => wa ρ (fun ss ρ1 => gets2 ρ1 ss fun ds => match ds with
  | [.int i, .int j, .int c] => ∃ n, RgC i j c n ∧ q ((List.range n).map fun m => D.int (i + (m : Nat) * c)) ρ1
  | _ => False) e
theorem pxi_range3 {a b c : Expr} {wa : WA} (hg : Gl X "range") (hm : X.mg "range" = none) (ha : PXA G X W [a, b, c] wa) (hs : starEach [a, b, c] X.env = (false, eval a X.env) :: starEach [b, c] X.env := by rfl) (hpl : (backTo pos (starEach [b, c] X.env)).any (·.1) = false := by rfl) :
    PXI G X W tg (.Call (.Name "range" p) [a, b, c] [] pos) (wRng3 wa) := by
  obtain ⟨ta, pa, sa⟩ := ha
  refine ⟨_, pi_range3 hg hm pa hs hpl, fun M ρ σ H q eq R rp w k th => sa M ρ σ H _ eq _ rp w (fun ss ρ1 vs H1 g rs q => ?_) th⟩
  obtain ⟨ds, a1, q⟩ := RSs.args g.rep rs q
  split at q
  · obtain ⟨v, u, w', rfl, a2, a3, a4⟩ := a1.three
    obtain ⟨n, hr, q⟩ := q
    exact ⟨_, _, _, n, by rw [a2.int, a3.int, a4.int], hr, k _ ρ1 H1 _ g (fd_rngC _ _ _) q⟩
  · exact q.elim
/-! ### for -/
def wFor (is : List Nat) (wi : WI) (wg : WG) (wb : WS) : WS := fun P ρ => wi ρ (fun ds ρ1 => (∀ i ∈ is, i ∉ P.pins) ∧ ∃ I : Nat → Env → Prop, I 0 ρ1 ∧
  (∀ i d ρ', ds[i]? = some d → I i ρ' → wg d ρ' fun ρ2 => wb { P with nx := I (i + 1), ct := I (i + 1), bk := P.nx } ρ2) ∧ ∀ ρ', I ds.length ρ' → P.nx ρ') P.ex
/-- a frame more: what stands now stands -/
def Cxt.fr (c : Cxt) (M : List Addr) (H : Hp) : Cxt := { c with frs := (M, H) :: c.frs }
theorem RepS.fr1 {c : Cxt} (r : RepS G c M ρ σ H) : RepS G (c.fr M H) M ρ σ H := ⟨r.rep, r.sub, r.kp, r.own, r.pin, r.old, r.new, r.tT, fun f hf => by
  rcases List.mem_cons.mp hf with rfl | hf
  · exact Ex.refl _
  · exact r.fr f hf⟩
theorem RepS.fr0 {c : Cxt} {N : List Addr} {K : Hp} (r : RepS G (c.fr N K) M ρ σ H) : RepS G c M ρ σ H := ⟨r.rep, r.sub, r.kp, r.own, r.pin, r.old, r.new, r.tT, fun f hf => r.fr f (List.mem_cons_of_mem _ hf)⟩
theorem RepS.frE {c : Cxt} {N : List Addr} {K : Hp} (r : RepS G (c.fr N K) M ρ σ H) : Ex (Fz N K) (Fz M H) := r.fr _ List.mem_cons_self
theorem py_for {is : List Nat} {wi : WI} {wg : WG} {wb : WS} {body : List Stmt} (hp : PassesOwn (model X.prog X.w) X.A X.env X.xe) (hc : X.calm = true) (hi : PXI G X W tg e wi) (hg : PXG G X is tg wg) (hb : PYs G X W body wb)
    (hs : ∀ x, foldedSetIterable e X.env x = pure x := by intro _; rfl) : PY G X W (.For tg e body [] pos) (wFor is wi wg wb) := by
  obtain ⟨ti, pi, si⟩ := hi
  obtain ⟨tg', pg, sg⟩ := hg
  obtain ⟨tb, pb, sb⟩ := hb
  refine ⟨_, ps_for hp hc pi pg pb hs, fun c M ρ σ H Z P r w k => ?_⟩
  refine si M ρ σ H _ _ _ r.rep w (fun ds ρ1 H1 J g F q => ?_) (k.thr r)
  obtain ⟨hpin, I, h0, turn, fin⟩ := q
  have r1 := (r.go g).fr1
  refine ⟨fun i m σ H => ∃ M' ρ', RepS G (c.fr M H1) M' ρ' σ H ∧ I i ρ' ∧ i ≤ ds.length ∧ m = ds.length - i, ⟨_, M, ρ1, r1, h0, Nat.zero_le _, rfl⟩, ?_⟩
  rintro i m σ2 H2 ⟨M2, ρ2, r2, hI, hi, rfl⟩
  by_cases hlt : i < ds.length
  · refine .inr ⟨F.go i M2 H2 r2.frE hlt, fun σ' H' => ∃ M' ρ', RepS G (c.fr M H1) M' ρ' σ' H' ∧ I (i + 1) ρ', fun σ' H' ⟨M', ρ', a, b⟩ => ⟨_, by omega, M', ρ', a, b, hlt, rfl⟩, fun x H3 hy => ?_⟩
    obtain ⟨e3, d, hd, rd⟩ := F.yld i M2 H2 x H3 r2.frE r2.rep.tr hlt hy
    have r3 : RepS G (c.fr M H1) M2 ρ2 σ2 H3 := r2.go (Go.ex r2.rep e3)
    refine sg M2 ρ2 σ2 H3 x d _ _ r3.rep rd (turn i d ρ2 hd hI) fun ρ4 σ4 H4 r4 e4 d4 w4 => ?_
    have r5 := r3.diff r4 e4 d4 (by
      intro j hj
      have := hpin j hj
      rw [k.pins] at this
      exact this)
    exact sb (c.fr M H1) M2 ρ4 σ4 H4 _ _ r5 w4 ⟨k.pins, fun M6 ρ6 σ6 H6 r6 q6 => ⟨M6, ρ6, r6, q6⟩, fun s M6 ρ6 σ6 v H6 r6 => k.rt s M6 ρ6 σ6 v H6 r6.fr0, fun d M6 ρ6 σ6 a H6 r6 => k.rn d M6 ρ6 σ6 a H6 r6.fr0, fun M6 ρ6 σ6 H6 r6 q6 => k.nx M6 ρ6 σ6 H6 r6.fr0 q6,
      fun M6 ρ6 σ6 H6 r6 q6 => ⟨M6, ρ6, r6, q6⟩, fun C ns vs M6 ρ6 σ6 dx H6 r6 => k.ex C ns vs M6 ρ6 σ6 dx H6 r6.fr0⟩
  · have e2 : i = ds.length := by omega
    subst e2
    exact .inl ⟨F.stop M2 H2 r2.frE, k.nx M2 ρ2 σ2 H2 r2.fr0 (fin ρ2 hI)⟩
/-! ### list comprehensions -/
def wipeE (vs : List Nat) (ρ : Env) : Env := match vs with
  | [] => ρ
  | v :: vs => (wipeE vs ρ).set v .un
/-- the slots vs as they were -/
def backE (vs : List Nat) (ρ0 ρ : Env) : Env := match vs with
  | [] => ρ
  | v :: vs => match ρ0[v]? with
    | some c => (backE vs ρ0 ρ).set v c
    | none => backE vs ρ0 ρ
theorem wipe_get {vs : List Nat} {σ : L2.St} (i : Nat) : (wipe σ vs)[i]? = if i ∈ vs ∧ i < σ.length then some none else σ[i]? := by
  induction vs with
  | nil => simp [wipe]
  | cons v vs ih =>
    unfold wipe
    rw [List.getElem?_set, wipe_length]
    by_cases h : v = i
    · subst h
      by_cases hl : v < σ.length
      · rw [if_pos rfl, if_pos hl, if_pos ⟨List.mem_cons_self, hl⟩]
      · rw [if_pos rfl, if_neg hl, if_neg (by rintro ⟨_, z⟩; exact hl z), List.getElem?_eq_none (by omega)]
    · rw [if_neg h, ih]
      by_cases hm : i ∈ vs ∧ i < σ.length
      · rw [if_pos hm, if_pos ⟨List.mem_cons_of_mem _ hm.1, hm.2⟩]
      · rw [if_neg hm, if_neg (by
          rintro ⟨z, y⟩
          rcases List.mem_cons.mp z with q | q
          · exact h q.symm
          · exact hm ⟨q, y⟩)]
theorem wipeE_len (vs : List Nat) (ρ : Env) : (wipeE vs ρ).length = ρ.length := by
  induction vs with
  | nil => rfl
  | cons v vs ih => unfold wipeE; rw [List.length_set, ih]
theorem wipeE_get {vs : List Nat} {ρ : Env} (i : Nat) : (wipeE vs ρ)[i]? = if i ∈ vs ∧ i < ρ.length then some .un else ρ[i]? := by
  induction vs with
  | nil => simp [wipeE]
  | cons v vs ih =>
    unfold wipeE
    rw [List.getElem?_set, wipeE_len]
    by_cases h : v = i
    · subst h
      by_cases hl : v < ρ.length
      · rw [if_pos rfl, if_pos hl, if_pos ⟨List.mem_cons_self, hl⟩]
      · rw [if_pos rfl, if_neg hl, if_neg (by rintro ⟨_, z⟩; exact hl z), List.getElem?_eq_none (by omega)]
    · rw [if_neg h, ih]
      by_cases hm : i ∈ vs ∧ i < ρ.length
      · rw [if_pos hm, if_pos ⟨List.mem_cons_of_mem _ hm.1, hm.2⟩]
      · rw [if_neg hm, if_neg (by
          rintro ⟨z, y⟩
          rcases List.mem_cons.mp z with q | q
          · exact h q.symm
          · exact hm ⟨q, y⟩)]
theorem backE_get {vs : List Nat} {ρ0 ρ : Env} (hl : ρ0.length = ρ.length) (i : Nat) : (backE vs ρ0 ρ)[i]? = if i ∈ vs then ρ0[i]? else ρ[i]? := by
  have hlen : ∀ vs : List Nat, (backE vs ρ0 ρ).length = ρ.length := by
    intro vs
    induction vs with
    | nil => rfl
    | cons v vs ih => unfold backE; split <;> simp [ih]
  induction vs with
  | nil => simp [backE]
  | cons v vs ih =>
    unfold backE
    by_cases h : v = i
    · subst h
      rw [if_pos List.mem_cons_self]
      cases e : ρ0[v]? with
      | some c =>
        have hv : v < ρ0.length := (List.getElem?_eq_some_iff.mp e).1
        rw [List.getElem?_set, if_pos rfl, if_pos (by rw [hlen]; omega)]
      | none =>
        have hv : ρ0.length ≤ v := List.getElem?_eq_none_iff.mp e
        exact List.getElem?_eq_none (by rw [hlen]; omega)
    · have hm : i ∈ v :: vs ↔ i ∈ vs := ⟨fun z => (List.mem_cons.mp z).resolve_left fun q => h q.symm, List.mem_cons_of_mem _⟩
      simp only [hm]
      split
      · rw [List.getElem?_set_ne h, ih]
      · exact ih
/-- no slot of vs is owned -/
def NoOw (vs : List Nat) (ρ : Env) : Prop := ∀ i ∈ vs, ∀ d, ρ[i]? ≠ some (.ow d)
theorem rep_wipe {vs : List Nat} (r : Rep G M ρ σ H) : Rep G M (wipeE vs ρ) (wipe σ vs) H := by
  refine ⟨by rw [wipeE_len, wipe_length, r.len], fun i d h => ?_, fun i d h => ?_, fun i j a d d' h1 h2 h3 h4 => ?_, r.trk, r.tab, r.tm⟩
  · rw [wipeE_get] at h
    split at h
    · cases h
    · rename_i hn
      obtain ⟨v, h1, h2⟩ := r.fz i d h
      exact ⟨v, by rw [wipe_get, if_neg (by rw [← r.len]; exact hn)]; exact h1, h2⟩
  · rw [wipeE_get] at h
    split at h
    · cases h
    · rename_i hn
      obtain ⟨v, h1, h2⟩ := r.ow i d h
      exact ⟨v, by rw [wipe_get, if_neg (by rw [← r.len]; exact hn)]; exact h1, h2⟩
  · rw [wipeE_get] at h1 h2
    rw [wipe_get] at h3 h4
    split at h1
    · cases h1
    · split at h2
      · cases h2
      · split at h3
        · cases h3
        · split at h4
          · cases h4
          · exact r.inj i j a d d' h1 h2 h3 h4
theorem go_wipe {vs : List Nat} (r : Rep G M ρ σ H) (no : NoOw vs ρ) {ρ2 : Env} {H2 : Hp} (rp : Rep G M ρ2 (wipe σ vs) H2) (kin : Kin (wipeE vs ρ) ρ2) (kp : Keep (Seen ρ σ) H H2) : Go G M σ ρ H (backE vs ρ ρ2) H2 := by
  have hl : ρ.length = ρ2.length := by rw [rp.len, wipe_length, r.len]
  have fz2 : Ex (Fz M H) (Fz M H2) := fun b o h => by
    obtain ⟨n, e, t⟩ := fz_of3 h
    exact fz_in n (kp b o e (fun z => n (r.seenM z)) t) t
  -- off vs both stand side by side
  have off : ∀ i, i ∉ vs → (wipe σ vs)[i]? = σ[i]? := fun i hi => by rw [wipe_get, if_neg (fun z => hi z.1)]
  refine ⟨⟨?_, fun i d h => ?_, fun i d h => ?_, fun i j a d d' h1 h2 h3 h4 => ?_, rp.trk, rp.tab, rp.tm⟩, fun i => ?_, kp⟩
  · have : (backE vs ρ ρ2).length = ρ2.length := by
      clear rp kin kp no r off fz2
      induction vs with
      | nil => rfl
      | cons v vs ih => unfold backE; split <;> simp [ih]
    rw [this, ← hl, r.len]
  · rw [backE_get hl] at h
    split at h
    · obtain ⟨v, h1, h2⟩ := r.fz i d h
      exact ⟨v, h1, h2.ex fz2⟩
    · rename_i hn
      obtain ⟨v, h1, h2⟩ := rp.fz i d h
      rw [off i hn] at h1
      exact ⟨v, h1, h2⟩
  · rw [backE_get hl] at h
    split at h
    · rename_i hm
      exact absurd h (no i hm d)
    · rename_i hn
      obtain ⟨v, h1, h2⟩ := rp.ow i d h
      rw [off i hn] at h1
      exact ⟨v, h1, h2⟩
  · rw [backE_get hl] at h1 h2
    split at h1
    · rename_i hm; exact absurd h1 (no i hm d)
    · rename_i hn
      split at h2
      · rename_i hm; exact absurd h2 (no j hm d')
      · rename_i hn2
        rw [← off i hn] at h3
        rw [← off j hn2] at h4
        exact rp.inj i j a d d' h1 h2 h3 h4
  · rw [backE_get hl]
    split
    · exact .inl rfl
    · rename_i hn
      have hw : (wipeE vs ρ)[i]? = ρ[i]? := by rw [wipeE_get, if_neg (fun z => hn z.1)]
      rcases kin i with q | ⟨d, d', q1, q2⟩
      · exact .inl (q.trans hw)
      · exact .inr ⟨d, d', by rw [← hw]; exact q1, q2⟩
end
end Pu
/-! ### the pure layer: new containers; comprehensions -/
namespace Pu
open PySem PySem.Spec PyProof.Rows L2 Lk Evl
abbrev WN := Env → (D → Env → Prop) → EQ → Prop
/-- a new container, that nothing else holds -/
def SN (G : Gx) (W : WX) (t : TE) (w : WN) : Prop := ∀ M ρ σ H q eq Q, Rep G M ρ σ H → w ρ q eq →
  (∀ d ρ' a H', Go G M σ ρ H ρ' H' → a ∉ M → New H a → Rep G (a :: M) ρ' σ H' → Own G (a :: M) H' a d → q d ρ' → Q (.ref a) H') → Thr G M W σ ρ H eq → t σ H Q
structure PXN (G : Gx) (X : Cx) (W : WX) (e : Expr) (w : WN) : Prop where
  ex : ∃ t, PE X e t ∧ SN G W t w
/-- as a value -/
def wV (w : WN) : WE := fun ρ q e => w ρ (fun d ρ' => q (.val d) ρ') e
theorem own_r {G : Gx} {M : List Addr} {H : Hp} {a : Addr} {d : D} (n : a ∉ M) (h : Own G (a :: M) H a d) : R G (Fz M H) (.ref a) d := by
  have e : Ex (Fz (a :: M) H) (Fz M H) := fz_anti fun b hb => List.mem_cons_of_mem _ hb
  cases d <;> first | exact h.elim | skip
  · obtain ⟨xs, h1, h2⟩ := h; exact .lst (fz_in n h1) (h2.ex e)
  · obtain ⟨kvs, h1, h2, h3⟩ := h; exact .dct ⟨kvs, .inl (fz_in n h1), rfl, rfl⟩ (h2.ex e) (h3.ex e)
  · obtain ⟨dx, fs, h1, h2, h3⟩ := h; exact .obj (fz_in n h1) h2 (h3.ex e)
theorem se_v {G : Gx} {W : WX} {t : TE} {w : WN} (h : SN G W t w) : SE G W t (wV w) := fun M ρ σ H q eq Q rp hw k th =>
  h M ρ σ H _ eq Q rp hw (fun d ρ' a H' g n _ _ ow qq => k (.val d) ρ' _ H' g (own_r n ow) qq) th
section
variable {G : Gx} {X : Cx} {W : WX} {M : List Addr} {ρ ρ1 : Env} {σ : L2.St} {H H1 : Hp} {e : Expr} {es : List Expr} {pos p : Pos} {wn : WN} {wa : WA} {we : WE}
theorem pxn (h : PXN G X W e wn) : PX G X W e (wV wn) := by
  obtain ⟨t, p, s⟩ := h
  exact ⟨t, p, se_v s⟩
theorem fz_new {l : Addr} {o : HO} (hl : H l = none) : Ex (Fz M H) (Fz (l :: M) (upd H l o)) := fun b u h => by
  obtain ⟨n, e, t⟩ := fz_of3 h
  have ne : b ≠ l := ne_of_none e hl
  refine fz_in (fun z => ?_) (by rw [upd_ne ne]; exact e) t
  rcases List.mem_cons.mp z with q | q
  · exact ne q
  · exact n q
theorem own_step {a l : Addr} {d : D} {o : HO} (hl : H l = none) (h : Own G M H a d) : Own G (l :: M) (upd H l o) a d := by
  have e := fz_new (M := M) (o := o) hl
  have ne : ∀ {u}, H a = some u → upd H l o a = some u := fun h => by rw [upd_ne (ne_of_none h hl)]; exact h
  cases d <;> first | exact h.elim | skip
  · obtain ⟨xs, h1, h2⟩ := h; exact ⟨xs, ne h1, h2.ex e⟩
  · obtain ⟨kvs, h1, h2, h3⟩ := h; exact ⟨kvs, ne h1, h2.ex e, h3.ex e⟩
  · obtain ⟨dx, fs, h1, h2, h3⟩ := h; exact ⟨dx, fs, ne h1, h2, h3.ex e⟩
theorem rep_new (r : Rep G M ρ σ H) {l : Addr} {o : HO} (hl : H l = none) (ht : NoT o := by intro _ z; cases z) : Rep G (l :: M) ρ σ (upd H l o) := by
  refine ⟨r.len, fun i d h => ?_, fun i d h => ?_, r.inj, fun a ha => ?_, r.tab.ext (Ex.new hl), fun p hp => List.mem_cons_of_mem _ (r.tm p hp)⟩
  · obtain ⟨v, h1, h2⟩ := r.fz i d h; exact ⟨v, h1, h2.ex (fz_new hl)⟩
  · obtain ⟨a, h1, h2, h3⟩ := r.ow i d h; exact ⟨a, h1, List.mem_cons_of_mem _ h2, own_step hl h3⟩
  · rcases List.mem_cons.mp ha with rfl | ha
    · exact ⟨o, upd_same, .inl ht⟩
    · obtain ⟨u, hu, t⟩ := r.trk a ha
      exact ⟨u, by rw [upd_ne (ne_of_none hu hl)]; exact hu, t⟩
/-- a new list is laid -/
theorem fin_lst {q : D → Env → Prop} {Q : VK} {ρ' : Env} {H' : Hp} {l : Addr} {xs : List V} {ds : List D} (g : Go G M σ ρ H ρ' H') (h0 : New H l) (hl : H' l = none) (ra : RAll G (Fz M H') xs ds)
    (k : ∀ d ρ' a H', Go G M σ ρ H ρ' H' → a ∉ M → New H a → Rep G (a :: M) ρ' σ H' → Own G (a :: M) H' a d → q d ρ' → Q (.ref a) H') (w : q (.lst ds) ρ') : Q (.ref l) (upd H' l (.lst xs)) :=
  k (.lst ds) ρ' l _ (g.then_ex (Ex.new hl)) (g.rep.new hl) h0 (rep_new g.rep hl) ⟨xs, upd_same, ra.ex (fz_new hl)⟩ w
theorem Go.none (g : Go G M σ ρ H ρ1 H1) {l : Addr} (hl : H1 l = none) (r : Rep G M ρ σ H) : New H l := fun o e t => by
  by_cases s : Seen ρ σ l
  · obtain ⟨o', e'⟩ := g.rep.tr l (r.seenM s)
    rw [e'] at hl; cases hl
  · rw [g.kp l o e s t] at hl; cases hl
/-- what was new is new for what stood before -/
theorem Go.isNew (g : Go G M σ ρ H ρ1 H1) {l : Addr} (hl : New H1 l) (r : Rep G M ρ σ H) : New H l := fun o e t => by
  by_cases s : Seen ρ σ l
  · obtain ⟨i, d, h1, h2⟩ := g.kin.seen.mpr s
    obtain ⟨b, e1, m, w⟩ := g.rep.ow i d h1
    rw [h2] at e1
    cases e1
    obtain ⟨o', e', n', _⟩ := w.pl
    exact hl o' e' n'
  · exact hl o (g.kp l o e s t) t
def nLst (wa : WA) : WN := fun ρ q e => wa ρ (fun ss ρ1 => ValsD ss fun ds => ds.length ≤ sizeLine ∧ q (.lst ds) ρ1) e
theorem pxn_lst (ha : PXA G X W es wa) : PXN G X W (.List es pos) (nLst wa) := by
  obtain ⟨ta, pa, sa⟩ := ha
  refine ⟨_, pe_lst pa, fun M ρ σ H q eq Q rp w k th => sa M ρ σ H _ eq _ rp w (fun ss ρ' vs H' g r1 qq => ?_) th⟩
  obtain ⟨ds, h1, h2, h3⟩ := r1.vals qq
  exact ⟨by rw [h1.len]; exact h2, fun p hp => fin_lst g (g.none hp rp) hp h1 k h3⟩
/-- built-ins that make a list -/
abbrev OpL := List D → (List D → Prop) → Prop
def CallL (G : Gx) (op : OpL) (r : List V → Hp → VK → Prop) : Prop := ∀ M H xs ds k, Trk M H → Args G M H xs ds → op ds k → ∀ Q : VK, (∀ ys l zs, H l = none → RAll G (Fz M H) zs ys → k ys → Q (.ref l) (upd H l (.lst zs))) → r xs H Q
def nCall (op : OpL) (wa : WA) : WN := fun ρ q e => wa ρ (fun ss ρ1 => gets2 ρ1 ss fun ds => op ds fun ys => q (.lst ys) ρ1) e
theorem sn_call {ta : TA} {r : List V → Hp → VK → Prop} {op : OpL} (ha : SA G W ta wa) (ho : CallL G op r) : SN G W (tCB r ta) (nCall op wa) := by
  intro M ρ σ H q eq Q rp w k th
  refine ha M ρ σ H _ eq _ rp w (fun s1 ρ1 xs H1 g1 r1 w1 => ?_) th
  obtain ⟨ds, a1, w3⟩ := RSs.args g1.rep r1 w1
  exact ho M H1 xs ds _ g1.rep.tr a1 w3 Q fun ys l zs hl ra ky => fin_lst g1 (g1.none hl rp) hl ra k ky
theorem pxn_callT {id : String} {x : Str} {r : List V → Hp → VK → Prop} {op : OpL} (hc : CallR X (.type id) r) (ho : CallL G op r) (hg : Gl X x) (hm : X.mg x = none) (hv : bootBuiltins x = some (.type id)) (ha : PXA G X W (e :: es) wa) (hn : x ≠ "__name__" := by decide) (hdb : (x == ("__debug__" : Str)) = false := by decide)
    (he : starEach (e :: es) X.env = (false, eval e X.env) :: starEach es X.env := by rfl) (hpl : (backTo pos (starEach es X.env)).any (·.1) = false := by rfl) : PXN G X W (.Call (.Name x p) (e :: es) [] pos) (nCall op wa) := by
  obtain ⟨ta, pa, sa⟩ := ha
  exact ⟨_, pe_callTy hc hg hm hv pa hn hdb he hpl, sn_call sa ho⟩
theorem pxn_callB {id : String} {x : Str} {r : List V → Hp → VK → Prop} {op : OpL} (hc : CallR X (.builtin id) r) (ho : CallL G op r) (hg : Gl X x) (hm : X.mg x = none) (hv : bootBuiltins x = some (.builtin id)) (ha : PXA G X W (e :: es) wa) (hn : x ≠ "__name__" := by decide) (hdb : (x == ("__debug__" : Str)) = false := by decide)
    (he : starEach (e :: es) X.env = (false, eval e X.env) :: starEach es X.env := by rfl) (hpl : (backTo pos (starEach es X.env)).any (·.1) = false := by rfl) : PXN G X W (.Call (.Name x p) (e :: es) [] pos) (nCall op wa) := by
  obtain ⟨ta, pa, sa⟩ := ha
  exact ⟨_, pe_callB hc hg hm hv pa hn hdb he hpl, sn_call sa ho⟩
def l1 (f : D → (List D → Prop) → Prop) : OpL := fun ds k => match ds with
  | [x] => f x k
  | _ => False
def lToLst (x : D) (k : List D → Prop) : Prop := match x with
  | .lst ds => k ds
  | .sl ds => k ds
  | .tup ds => k ds
  | .str z => z.length ≤ sizeLine ∧ k (z.cps.toList.map sgnD)
  | _ => False
theorem toLst_l : CallL G (l1 lToLst) (rToLst G.K) := by
  intro M H xs ds k t a hk Q q
  unfold l1 at hk
  split at hk
  · obtain ⟨v, rfl, a1⟩ := a.one
    unfold lToLst at hk
    split at hk
    · obtain ⟨p, xs, rfl, e1, e2⟩ := a1.lst
      exact .inl ⟨p, xs, rfl, .inl (SqL.of e1), fun l hl => q _ l _ hl e2 hk⟩
    · obtain ⟨p, xs, rfl, e1, e2⟩ := a1.sl
      exact .inl ⟨p, xs, rfl, .inl e1, fun l hl => q _ l _ hl e2 hk⟩
    · obtain ⟨p, xs, rfl, e1, e2, _⟩ := a1.tup
      exact .inl ⟨p, xs, rfl, .inr e1, fun l hl => q _ l _ hl e2 hk⟩
    · exact .inr ⟨_, by rw [a1.str], hk.1, fun l hl => q _ l _ hl (RAll.sgns _) hk.2⟩
    · exact hk.elim
  · exact hk.elim
structure lSorted (x : D) (k : List D → Prop) : Prop where
  ok : match x with
    | .lst ds => optK (allM D.asS ds) fun xs => xs.length < 64 ∧ ∀ ys : List Str, ys.Perm xs → sortedS ys = true → k (ys.map D.str)
    | _ => False
theorem sorted_l : CallL G (l1 lSorted) (rSortedS G.K) := by
  intro M H xs ds k t a hk Q q
  unfold l1 at hk
  split at hk
  · obtain ⟨v, rfl, a1⟩ := a.one
    obtain ⟨hk⟩ := hk
    split at hk
    · obtain ⟨bs, e, h1, h2⟩ := optK_of hk
      have e2 := allM_map (g := D.str) (fun _ _ => asS_eq) e
      subst e2
      obtain ⟨p, xs, rfl, e1, e2⟩ := a1.lst
      rw [e2.strs_inv] at e1
      exact ⟨p, bs, rfl, SqL.of e1, h1, fun ys l hp hs hl => q _ l _ hl (RAll.of_strs ys) (h2 ys hp hs)⟩
    · exact hk.elim
  · exact hk.elim
/-- xs + ys, xs * n, xs[a:b] of lists -/
def OpNL (G : Gx) (op : D → D → (List D → Prop) → Prop) (r : R2) : Prop := ∀ M H x y d1 d2 k, Trk M H → Arg G M H x d1 → Arg G M H y d2 → op d1 d2 k → ∀ Q : VK, (∀ ys l zs, H l = none → RAll G (Fz M H) zs ys → k ys → Q (.ref l) (upd H l (.lst zs))) → r x y H Q
def nOp (op : D → D → (List D → Prop) → Prop) (wa wb : WE) : WN := fun ρ q e => wa ρ (fun s1 ρ1 => wb ρ1 (fun s2 ρ2 => s1.gets ρ2 fun d1 => s2.gets ρ2 fun d2 => op d1 d2 fun d => q (.lst d) ρ2) e) e
theorem pxn_op {a b : Expr} {wa wb : WE} {f : Operator} {r : R2} {op : D → D → (List D → Prop) → Prop} (hr : OpR X (binaryOp f) r) (ho : OpNL G op r) (ha : PX G X W a wa) (hb : PX G X W b wb) : PXN G X W (.BinOp a f b pos) (nOp op wa wb) := by
  obtain ⟨ta, pa, sa⟩ := ha
  obtain ⟨tb, pb, sb⟩ := hb
  refine ⟨_, pe_op hr pa pb, fun M ρ σ H q eq Q rp w k th => ?_⟩
  refine sa M ρ σ H _ eq _ rp w (fun s1 ρ1 x H1 g1 r1 w1 => ?_) th
  refine sb M ρ1 σ H1 _ eq _ g1.rep w1 (fun s2 ρ2 y H2 g2 r2 w2 => ?_) (th.go g1)
  obtain ⟨d1, a1, w3⟩ := (r1.go g1.rep g2).arg g2.rep w2
  obtain ⟨d2, a2, w4⟩ := r2.arg g2.rep w3
  have g := g1.trans g2
  exact ho M H2 x y d1 d2 _ g2.rep.tr a1 a2 w4 Q fun ys l zs hl ra ky => fin_lst g (g.none hl rp) hl ra k ky
def lAdd (x y : D) (k : List D → Prop) : Prop := match x, y with
  | .lst a, .lst b => a.length + b.length ≤ sizeLine ∧ k (a ++ b)
  | _, _ => False
theorem add_l : OpNL G lAdd rCat := by
  intro M H x y d1 d2 k t a1 a2 h Q q
  unfold lAdd at h
  split at h
  · obtain ⟨p, xs, rfl, h1, h2⟩ := a1.lst
    obtain ⟨p', xs', rfl, h1', h2'⟩ := a2.lst
    exact ⟨p, p', xs, xs', rfl, rfl, h1, h1', by rw [h2.len, h2'.len]; exact h.1, fun l hl => q _ l _ hl (h2.app h2') h.2⟩
  · exact h.elim
def lMul (x y : D) (k : List D → Prop) : Prop := match x, y with
  | .lst ds, .int n => -(2 ^ 63) ≤ n ∧ n < 2 ^ 63 ∧ ds.length * n.toNat ≤ sizeLine ∧ k (List.replicate n.toNat ds).flatten
  | _, _ => False
theorem mul_l : OpNL G lMul rRep := by
  intro M H x y d1 d2 k t a1 a2 h Q q
  unfold lMul at h
  split at h
  · obtain ⟨p, xs, rfl, h1, h2⟩ := a1.lst
    obtain ⟨c1, c2, c3, c4⟩ := h
    exact ⟨p, _, xs, rfl, a2.int, h1, c1, c2, by rw [h2.len]; exact c3, fun l hl => q _ l _ hl (h2.rep _) c4⟩
  · exact h.elim
def nCut (wa : WE) (wl wh : WO) : WN := fun ρ q e => wa ρ (fun s ρ1 => wl ρ1 (fun lo ρ2 => wh ρ2 (fun hi ρ3 => s.gets ρ3 fun d => match d with
  | .lst ds => q (.lst (cutA ds lo hi)) ρ3
  | _ => False) e) e) e
theorem pxn_cut {a : Expr} {p2 : Pos} {wa : WE} {wl wh : WO} {lo hi : Option Expr} (ha : PX G X W a wa) (hl : PXO G X W lo wl) (hh : PXO G X W hi wh) (hK : X.K = G.K := by rfl) : PXN G X W (.Subscript a (.Slice lo hi none p2) pos) (nCut wa wl wh) := by
  obtain ⟨ta, pa, sa⟩ := ha
  obtain ⟨tl, pl, sl⟩ := hl
  obtain ⟨th', ph, sh⟩ := hh
  refine ⟨_, pe_slice sl_list pa pl ph, fun M ρ σ H q eq Q rp w k th => sa M ρ σ H _ eq _ rp w (fun s1 ρ1 x H1 g1 r1 w1 => ?_) th⟩
  refine sl M ρ1 σ H1 _ eq _ g1.rep w1 (fun lo ρ2 H2 g2 w2 => ?_) (th.go g1)
  refine sh M ρ2 σ H2 _ eq _ g2.rep w2 (fun hi ρ3 H3 g3 w3 => ?_) (th.go (g1.trans g2))
  have g := (g1.trans g2).trans g3
  obtain ⟨d, a1, w4⟩ := (r1.go g1.rep (g2.trans g3)).arg g3.rep w3
  rw [hK]
  split at w4
  · obtain ⟨p, xs, rfl, h1, h2⟩ := a1.lst
    exact ⟨p, xs, rfl, SqL.of h1, fun l hl => fin_lst g (g.none hl rp) hl (h2.cut lo hi) k w4⟩
  · exact w4.elim
/-! ### comprehensions -/
def noOw (vs : List Nat) (ρ : Env) : Bool := vs.all fun i => match ρ[i]? with
  | some (.ow _) => false
  | _ => true
theorem noOw_of {vs : List Nat} (h : noOw vs ρ = true) : NoOw vs ρ := fun i hi d z => by
  have := List.all_eq_true.mp h i hi
  rw [z] at this; cases this
/-- the wish of a comprehension's inside: nothing is raised -/
abbrev W0 : WX := fun _ _ _ _ => False
abbrev eq0 : EQ := fun _ _ _ _ => False
theorem thr0 : Thr G M W0 σ ρ H eq0 := fun _ _ _ _ _ _ _ _ z => z
/-- what a comprehension asks, its items known -/
structure LcOk (vs : List Nat) (wg : WG) (wt : WT) (we : WE) (q : D → Env → Prop) (ds : List D) (ρ1 : Env) : Prop where
  ok : noOw vs ρ1 = true ∧ ∃ I : Nat → List D → Env → Prop, I 0 [] (wipeE vs ρ1) ∧
  (∀ i d ys ρ', ds[i]? = some d → I i ys ρ' → ys.length ≤ i → wg d ρ' fun ρ2 => wt ρ2 (fun b ρ3 => if b = true then we ρ3 (fun s ρ4 => s.val' fun y => I (i + 1) (ys ++ [y]) (wipeE vs ρ4)) eq0 else I (i + 1) ys (wipeE vs ρ3)) eq0) ∧
  ds.length ≤ sizeLine ∧ ∀ ys ρ', I ds.length ys ρ' → ys.length ≤ ds.length → q (.lst ys) (backE vs ρ1 ρ')
def nLc (vs : List Nat) (wi : WI) (wg : WG) (wt : WT) (we : WE) : WN := fun ρ q e => wi ρ (fun ds ρ1 => LcOk vs wg wt we q ds ρ1) e
def Pln (H : Hp) (l : Addr) : Prop := ∃ o, H l = some o ∧ NoT o ∧ ∀ f, o ≠ .ext f
theorem pln_lst {l : Addr} {xs : List V} (h : H l = some (.lst xs)) : Pln H l := ⟨_, h, fun _ z => (nomatch z), fun _ z => nomatch z⟩
theorem pln_dK {l : Addr} {xs : List (Key × V)} (h : H l = some (.dK xs)) : Pln H l := ⟨_, h, fun _ z => (nomatch z), fun _ z => nomatch z⟩
theorem Pln.noTab {l : Addr} {T : List (Addr × Str)} (h : Pln H l) (t : LamX.Tabs T H) {p : Addr × Str} (hp : p ∈ T) : p.1 ≠ l := fun z => by
  obtain ⟨ps, e, _⟩ := t p hp
  obtain ⟨o, e1, n, _⟩ := h
  rw [z, e1] at e
  exact n ps (Option.some.inj e)
theorem rep_less {l : Addr} (r : Rep G (l :: M) ρ σ H) (n : ¬ Seen ρ σ l) (hp : Pln H l) : Rep G M ρ σ H := by
  have e : Ex (Fz (l :: M) H) (Fz M H) := fz_anti fun b hb => List.mem_cons_of_mem _ hb
  have oe : ∀ {a d}, Own G (l :: M) H a d → Own G M H a d := fun {a d} h => by
    cases d <;> first | exact h.elim | skip
    · obtain ⟨xs, h1, h2⟩ := h; exact ⟨xs, h1, h2.ex e⟩
    · obtain ⟨kvs, h1, h2, h3⟩ := h; exact ⟨kvs, h1, h2.ex e, h3.ex e⟩
    · obtain ⟨dx, fs, h1, h2, h3⟩ := h; exact ⟨dx, fs, h1, h2, h3.ex e⟩
  refine ⟨r.len, fun i d h => ?_, fun i d h => ?_, r.inj, fun a h => r.trk a (List.mem_cons_of_mem _ h), r.tab, fun p h => (List.mem_cons.mp (r.tm p h)).resolve_left (hp.noTab r.tab h)⟩
  · obtain ⟨v, h1, h2⟩ := r.fz i d h; exact ⟨v, h1, h2.ex e⟩
  · obtain ⟨a, h1, h2, h3⟩ := r.ow i d h
    refine ⟨a, h1, ?_, oe h3⟩
    rcases List.mem_cons.mp h2 with rfl | h2
    · exact (n ⟨i, d, h, h1⟩).elim
    · exact h2
theorem fz_mut {l : Addr} {o : HO} : Fz (l :: M) (upd H l o) = Fz (l :: M) H := by
  funext b
  unfold Fz
  by_cases h : b ∈ l :: M
  · rw [if_pos h, if_pos h]
  · rw [if_neg h, if_neg h, upd_ne (fun z => h (by rw [z]; exact List.mem_cons_self))]
theorem own_mut {a l : Addr} {d : D} {o : HO} (ne : a ≠ l) (h : Own G (l :: M) H a d) : Own G (l :: M) (upd H l o) a d := by
  cases d <;> first | exact h.elim | skip
  · obtain ⟨xs, h1, h2⟩ := h; exact ⟨xs, by rw [upd_ne ne]; exact h1, by rw [fz_mut]; exact h2⟩
  · obtain ⟨kvs, h1, h2, h3⟩ := h; exact ⟨kvs, by rw [upd_ne ne]; exact h1, by rw [fz_mut]; exact h2, by rw [fz_mut]; exact h3⟩
  · obtain ⟨dx, fs, h1, h2, h3⟩ := h; exact ⟨dx, fs, by rw [upd_ne ne]; exact h1, h2, by rw [fz_mut]; exact h3⟩
theorem rep_mut {l : Addr} {o : HO} (r : Rep G (l :: M) ρ σ H) (n : ¬ Seen ρ σ l) (hp : Pln H l) (ht : NoT o := by intro _ z; cases z) : Rep G (l :: M) ρ σ (upd H l o) := by
  refine ⟨r.len, fun i d h => ?_, fun i d h => ?_, r.inj, fun a ha => ?_, by obtain ⟨o0, e0, n1, n2⟩ := hp; exact tabs_upd r.tab e0 n1 n2, r.tm⟩
  · obtain ⟨v, h1, h2⟩ := r.fz i d h; exact ⟨v, h1, by rw [fz_mut]; exact h2⟩
  · obtain ⟨a, h1, h2, h3⟩ := r.ow i d h; exact ⟨a, h1, h2, own_mut (fun z => n ⟨i, d, h, by rw [← z]; exact h1⟩) h3⟩
  · by_cases e : a = l
    · rw [e]; exact ⟨o, upd_same, .inl ht⟩
    · obtain ⟨u, hu, t⟩ := r.trk a ha
      exact ⟨u, by rw [upd_ne e]; exact hu, t⟩
theorem sn_lc {ti : TI} {tg : TG} {tt : TT} {te : TE} {is vs : List Nat} {wi : WI} {wg : WG} {wt : WT} (his : ∀ i ∈ is, i ∈ vs) (hi : SI G W ti wi) (hg : SG G is tg wg) (ht : STt G W0 tt wt) (he : SE G W0 te we) : SN G W (tLc ti tg tt te vs) (nLc vs wi wg wt we) := by
  intro M ρ σ H q eq Q rp w k th
  refine hi M ρ σ H _ eq _ rp w (fun ds ρ1 H1 J g F ⟨no, I, h0, turn, hsz, fin⟩ => ?_) th
  intro L hL
  have nL : L ∉ M := g.rep.new hL
  have rN := rep_new (o := .lst []) g.rep hL
  have nS : ¬ Seen ρ1 σ L := fun z => nL (g.rep.seenM z)
  have no' := noOw_of no
  -- seen within is seen without
  have sub : ∀ {ρ' : Env}, Kin (wipeE vs ρ1) ρ' → ∀ a, Seen ρ' (wipe σ vs) a → Seen ρ1 σ a := fun {ρ'} kn a z => by
    obtain ⟨i, d, h1, h2⟩ := kn.seen.mp z
    rw [wipeE_get] at h1
    rw [wipe_get] at h2
    split at h1
    · cases h1
    · split at h2
      · cases h2
      · exact ⟨i, d, h1, h2⟩
  have fzL : ∀ {H' : Hp}, Keep (Seen ρ1 σ) H1 H' → Ex (Fz M H1) (Fz (L :: M) H') := fun {H'} kp b o h => by
    obtain ⟨n, e, t⟩ := fz_of3 h
    refine fz_in (fun z => ?_) (kp b o e (fun z => n (g.rep.seenM z)) t) t
    rcases List.mem_cons.mp z with z | z
    · rw [z, hL] at e; cases e
    · exact n z
  refine ⟨fun i m H => ∃ ρ' ys xs, Rep G (L :: M) ρ' (wipe σ vs) H ∧ Kin (wipeE vs ρ1) ρ' ∧ Keep (Seen ρ1 σ) H1 H ∧ H L = some (.lst xs) ∧ RAll G (Fz (L :: M) H) xs ys ∧ I i ys ρ' ∧ ys.length ≤ i ∧ i ≤ ds.length ∧ m = ds.length - i,
    ⟨_, wipeE vs ρ1, [], [], rep_wipe rN, .refl _, .of_ex (Ex.new hL), upd_same, .nil, h0, Nat.le_refl _, Nat.zero_le _, rfl⟩, ?_⟩
  rintro i m H2 ⟨ρ', ys, xs, r2, kn, kp, hx, ra, hI, hy, hi', rfl⟩
  have nS2 : ¬ Seen ρ' (wipe σ vs) L := fun z => nS (sub kn L z)
  by_cases hlt : i < ds.length
  · refine .inr ⟨F.go i (L :: M) H2 (fzL kp) hlt, fun H => ∃ ρ' ys xs, Rep G (L :: M) ρ' (wipe σ vs) H ∧ Kin (wipeE vs ρ1) ρ' ∧ Keep (Seen ρ1 σ) H1 H ∧ H L = some (.lst xs) ∧ RAll G (Fz (L :: M) H) xs ys ∧ I (i + 1) ys ρ' ∧ ys.length ≤ i + 1,
      fun H' ⟨ρ', ys, xs, a, b, c, d, e, f, g⟩ => ⟨_, by omega, ρ', ys, xs, a, b, c, d, e, f, g, hlt, rfl⟩, fun x H3 hyl => ?_⟩
    obtain ⟨e3, d, hd, rd⟩ := F.yld i (L :: M) H2 x H3 (fzL kp) r2.tr hlt hyl
    refine hg (L :: M) ρ' (wipe σ vs) H3 x d _ _ (r2.ex e3) rd (turn i d ys ρ' hd hI hy) fun ρ4 σ4 H4 r4 e4 d4 w4 => ?_
    have e34 := e3.trans e4
    have hw : wipe σ4 vs = wipe σ vs := by
      apply List.ext_getElem?
      intro j
      rw [wipe_get, wipe_get]
      have hl : σ4.length = σ.length := by rw [d4.len, wipe_length]
      by_cases hj : j ∈ vs
      · rw [hl]
        by_cases hjl : j < σ.length
        · rw [if_pos ⟨hj, hjl⟩, if_pos ⟨hj, hjl⟩]
        · rw [if_neg (fun z => hjl z.2), if_neg (fun z => hjl z.2), List.getElem?_eq_none (by omega), List.getElem?_eq_none (by omega)]
      · rw [if_neg (fun z => hj z.1), if_neg (fun z => hj z.1), (d4.out j fun z => hj (his j z)).2, wipe_get, if_neg (fun z => hj z.1)]
    refine ⟨hw, ?_⟩
    have nS4 : ∀ a, Seen ρ4 σ4 a → Seen ρ1 σ a := fun a z => sub kn a (d4.seen z)
    have kin4 : Kin (wipeE vs ρ1) (wipeE vs ρ4) := by
      intro n
      have e1 : ρ4.length = ρ1.length := by rw [r4.len, d4.len, wipe_length, g.rep.len]
      rw [wipeE_get, wipeE_get, e1]
      by_cases hn : n ∈ vs ∧ n < ρ1.length
      · rw [if_pos hn, if_pos hn]; exact .inl rfl
      · rw [if_neg hn, if_neg hn]
        by_cases hv : n ∈ vs
        · have : ρ1.length ≤ n := Nat.le_of_not_lt fun z => hn ⟨hv, z⟩
          rw [List.getElem?_eq_none (by omega), List.getElem?_eq_none (by omega)]; exact .inl rfl
        · rw [(d4.out n fun z => hv (his n z)).1]
          have := kn n
          rw [wipeE_get, if_neg hn] at this
          exact this
    have wrap : ∀ {ρ5 : Env}, Kin ρ4 ρ5 → Kin (wipeE vs ρ1) (wipeE vs ρ5) := fun {ρ5} k5 => kin4.trans fun n => by
      have e1 : ρ5.length = ρ4.length := by
        have h1 : ∀ n, ρ5[n]? = none ↔ ρ4[n]? = none := fun n => by
          rcases k5 n with z | ⟨d, d', z1, z2⟩
          · rw [z]
          · rw [z1, z2]; simp
        have a1 := (h1 ρ4.length).mpr (List.getElem?_eq_none (Nat.le_refl _))
        have a2 := (h1 ρ5.length).mp (List.getElem?_eq_none (Nat.le_refl _))
        have b1 := List.getElem?_eq_none_iff.mp a1
        have b2 := List.getElem?_eq_none_iff.mp a2
        omega
      rw [wipeE_get, wipeE_get, e1]
      split
      · exact .inl rfl
      · exact k5 n
    refine ht (L :: M) ρ4 σ4 H4 _ _ _ r4 w4 (fun b ρ5 H5 g5 w5 => ?_) thr0
    have kp5 : Keep (Seen ρ1 σ) H1 H5 := (kp.trans (.of_ex e34)).trans fun b o e n t => g5.kp b o e (fun z => n (nS4 b z)) t
    have x5 : H5 L = some (.lst xs) := g5.kp _ _ (e34 _ _ hx) (fun z => nS (nS4 L z)) noT_lst
    have f25 : Ex (Fz (L :: M) H2) (Fz (L :: M) H5) := (fz_step e34).trans (g5.fz r4)
    cases b with
    | false =>
      rw [if_neg Bool.false_ne_true] at w5 ⊢
      refine ⟨wipeE vs ρ5, ys, xs, ?_, wrap g5.kin, kp5, x5, ra.ex f25, w5, by omega⟩
      rw [← hw]
      exact rep_wipe g5.rep
    | true =>
      rw [if_pos rfl] at w5 ⊢
      refine he (L :: M) ρ5 σ4 H5 _ _ _ g5.rep w5 (fun s ρ6 v H6 g6 rs w6 => ?_) thr0
      obtain ⟨y, ry, w7⟩ := rs.val' w6
      have g56 := g5.trans g6
      have x6 : H6 L = some (.lst xs) := g6.kp _ _ x5 (fun z => nS (nS4 L (g5.kin.seen.mp z))) noT_lst
      have kp6 : Keep (Seen ρ1 σ) H1 H6 := kp5.trans fun b o e n t => g6.kp b o e (fun z => n (nS4 b (g5.kin.seen.mp z))) t
      have ra6 := (ra.ex f25).ex (g6.fz g5.rep)
      refine ⟨xs, x6, by rw [ra.len]; omega, wipeE vs ρ6, ys ++ [y], xs ++ [v], ?_, wrap g56.kin, fun b o e n t => ?_, upd_same, ?_, w7, by rw [List.length_append]; simp; omega⟩
      · rw [← hw]
        refine rep_mut (rep_wipe g6.rep) (fun z => nS (nS4 L (g56.kin.seen.mp ?_))) (pln_lst x6) noT_lst
        obtain ⟨n, d, h1, h2⟩ := z
        rw [wipeE_get] at h1
        rw [wipe_get] at h2
        split at h1
        · cases h1
        · split at h2
          · cases h2
          · exact ⟨n, d, h1, h2⟩
      · rw [upd_ne (ne_of_none e hL)]
        exact kp6 b o e n t
      · rw [fz_mut]
        exact ra6.app (.cons ry .nil)
  · have e2 : i = ds.length := by omega
    subst e2
    refine .inl ⟨F.stop (L :: M) H2 (fzL kp), ?_⟩
    have rM := rep_less r2 nS2 (pln_lst hx)
    have gg := go_wipe g.rep no' rM kn kp
    have gL : Go G (L :: M) σ ρ1 (upd H1 L (.lst xs)) (backE vs ρ1 ρ') H2 := go_wipe (rep_new g.rep hL) no' r2 kn fun b o e n t => by
      by_cases z : b = L
      · rw [z, upd_same] at e
        rw [z, hx]; exact e
      · rw [upd_ne z] at e; exact kp b o e n t
    exact k (.lst ys) _ L H2 (g.trans gg) nL (g.none hL rp) gL.rep ⟨xs, hx, ra⟩ (fin ys ρ' hI hy)
section
variable {elt tg iter : Expr} {scope : Scope} {own : List (Str × Nat)} {is : List Nat} {wi : WI} {wg : WG} {wt : WT}
/-- the tests of a comprehension -/
structure PXTs (G : Gx) (X : Cx) (ifs : List Expr) (w : WT) : Prop where
  ex : ∃ t, PTs X ifs t ∧ STt G W0 t w
def wYes : WT := fun ρ q _ => q true ρ
theorem pxts_nil : PXTs G X [] wYes := ⟨_, pts_nil, fun M ρ σ H q eq Q r w k _ => k true ρ H (.refl r) w⟩
theorem pxts_one {c : Expr} (h : PXT G X W0 c wt) : PXTs G X [c] wt := by
  obtain ⟨t, p, s⟩ := h
  exact ⟨_, pts_one p, s⟩
theorem PTs.imp {ifs : List Expr} {t t' : TT} (h : PTs X ifs t) (k : ∀ σ H Q, t' σ H Q → t σ H Q) : PTs X ifs t' := ⟨fun pins s σ H Q I w => h.run pins s σ H Q I (k σ H Q w)⟩
theorem PXTs.can {ifs : List Expr} (h : PXTs G X ifs wt) : PTs X ifs (tOfT G W0 wt) := by
  obtain ⟨t, p, s⟩ := h
  exact PTs.imp p fun σ H Q ⟨M, ρ, q, eq, a, b, c, d⟩ => s M ρ σ H q eq Q a b c d
theorem pxn_lc {ifs : List Expr} (his : ∀ i ∈ is, i ∈ own.map (·.2) := by decide) (hc : X.calm = true) (hN : X.N.Nodup) (hi : PXI G X W tg iter wi) (ok : BlkOk X.N X.env.scope scope own)
    (hg : ∀ (s : Shared) (H : Hp) (C : Addr) (cl : List (Str × Addr)) (fp : List Addr), PXG G (X.blk s H scope (compEnvC scope cl C X.env) fp) is tg wg)
    (ht : ∀ (s : Shared) (H : Hp) (C : Addr) (cl : List (Str × Addr)) (fp : List Addr), PXTs G (X.blk s H scope (compEnvC scope cl C X.env) fp) ifs wt)
    (he : ∀ (s : Shared) (H : Hp) (C : Addr) (cl : List (Str × Addr)) (fp : List Addr), PX G (X.blk s H scope (compEnvC scope cl C X.env) fp) W0 elt we) (hs : ∀ x, foldedSetIterable iter X.env x = pure x := by intro _; rfl) :
    PXN G X W (.ListComp elt [⟨tg, iter, ifs, 0⟩] scope pos) (nLc (own.map (·.2)) wi wg wt we) := by
  obtain ⟨ti, pi, si⟩ := hi
  exact ⟨_, pe_lc hc hN pi ok (fun s H C cl fp => (hg s H C cl fp).can) (fun s H C cl fp => (ht s H C cl fp).can) (fun s H C cl fp => (he s H C cl fp).can) hs, sn_lc his si (sg_of _ _ _) (st_of _ _ _) (se_of _ _ _)⟩
end
/-! ### names that hold a container of their own -/
section
variable {c : Cxt} {i : Nat} {x : Str} {pos' : Pos}
theorem RepS.own_set {v : Addr} {d : D} (r : RepS G c M ρ σ H) (n : v ∉ M) (rp : Rep G (v :: M) ρ σ H) (ow : Own G (v :: M) H v d) (h0 : New c.H0 v) (hp : i ∉ c.pins) (hi : i < σ.length) (hfr : ∀ f ∈ c.frs, Ex (Fz f.1 f.2) (Fz (v :: M) H)) :
    RepS G c (v :: M) (List.set ρ i (Cell.ow d)) (List.set σ i (some (V.ref v))) H := by
  have hi' : i < ρ.length := by rw [rp.len]; exact hi
  have g1 : ∀ j : Nat, (List.set ρ i (Cell.ow d))[j]? = if j = i then some (Cell.ow d) else ρ[j]? := fun j => by
    rw [List.getElem?_set]
    by_cases h : i = j
    · rw [if_pos h, if_pos h.symm, if_pos (by omega)]
    · rw [if_neg h, if_neg (Ne.symm h)]
  have g2 : ∀ j : Nat, (List.set σ i (some (V.ref v)))[j]? = if j = i then some (some (V.ref v)) else σ[j]? := fun j => by
    rw [List.getElem?_set]
    by_cases h : i = j
    · rw [if_pos h, if_pos h.symm, if_pos (by omega)]
    · rw [if_neg h, if_neg (Ne.symm h)]
  have nv : ∀ (j : Nat) (d' : D), ρ[j]? = some (.ow d') → σ[j]? ≠ some (some (.ref v)) := fun j d' h z => by
    obtain ⟨a, e, m, _⟩ := r.rep.ow j d' h
    rw [z] at e; cases e
    exact n m
  refine ⟨⟨by rw [List.length_set, List.length_set, rp.len], fun j d' h => ?_, fun j d' h => ?_, fun j k a d1 d2 h1 h2 h3 h4 => ?_, rp.trk, rp.tab, rp.tm⟩, fun a h => List.mem_cons_of_mem _ (r.sub a h), r.kp, fun a h => ?_, fun j hj => ?_, r.old, fun a h => ?_, r.tT, hfr⟩
  · rw [g1] at h
    rw [g2]
    split at h
    · cases h
    · rename_i hj
      rw [if_neg hj]
      exact rp.fz j d' h
  · rw [g1] at h
    rw [g2]
    split at h
    · rename_i hj
      cases h
      rw [if_pos hj]
      exact ⟨v, rfl, List.mem_cons_self, ow⟩
    · rename_i hj
      rw [if_neg hj]
      exact rp.ow j d' h
  · rw [g1] at h1 h2
    rw [g2] at h3 h4
    by_cases e1 : j = i
    · by_cases e2 : k = i
      · rw [e1, e2]
      · rw [if_pos e1] at h3
        cases h3
        rw [if_neg e2] at h2 h4
        exact (nv k d2 h2 h4).elim
    · by_cases e2 : k = i
      · rw [if_pos e2] at h4
        cases h4
        rw [if_neg e1] at h1 h3
        exact (nv j d1 h1 h3).elim
      · rw [if_neg e1] at h1 h3
        rw [if_neg e2] at h2 h4
        exact rp.inj j k a d1 d2 h1 h2 h3 h4
  · obtain ⟨j, d', h1, h2⟩ := h
    rw [g1] at h1
    rw [g2] at h2
    split at h1
    · rename_i hj
      rw [if_pos hj] at h2
      cases h2
      exact .inr h0
    · rename_i hj
      rw [if_neg hj] at h2
      exact r.own a ⟨j, d', h1, h2⟩
  · rw [g1, g2]
    have hj' : j ≠ i := fun e => hp (by rw [← e]; exact hj)
    rw [if_neg hj', if_neg hj']
    exact r.pin j hj
  · rcases List.mem_cons.mp h with rfl | h
    · exact .inr h0
    · exact r.new a h
def wSetN (i : Nat) (wn : WN) : WS := fun P ρ => wn ρ (fun d ρ1 => i ∉ P.pins ∧ i < ρ1.length ∧ P.nx (List.set ρ1 i (Cell.ow d))) P.ex
theorem ss_setN {te : TE} (he : SN G W te wn) : SS G W (tAsg te (gName i)) (wSetN i wn) := by
  intro c M ρ σ H Z P r w k
  refine he M ρ σ H _ _ _ r.rep w (fun d ρ1 a H1 g n h0 rp ow q => ?_) (k.thr r)
  have r1 := r.go g
  have hc0 : New c.H0 a := r.old a h0
  refine k.nx (a :: M) _ _ _ (r1.own_set n rp ow hc0 (by rw [← k.pins]; exact q.1) (by rw [← rp.len]; exact q.2.1) fun f hf => ?_) q.2.2
  refine (r.fr f hf).trans fun b o h => ?_
  obtain ⟨nb, e, t⟩ := fz_of3 h
  refine fz_in (fun z => ?_) (g.kp b o e (fun z => nb (r.rep.seenM z)) t) t
  rcases List.mem_cons.mp z with z | z
  · rw [z] at e; exact h0 o e t
  · exact nb z
theorem py_setN (i : Nat) (hN : X.N.Nodup) (hi : X.N[i]? = some x) (hx : Loc X.env.scope x) (he : PXN G X W e wn) (hs : swapsWith e (some (.Name x pos')) pos.line X.env = pure false := by rfl)
    (hf : X.fn x = true ∨ X.env.scope.names.lookup x = some .local := by first | exact .inl rfl | exact .inr rfl | assumption) : PY G X W (.Assign [.Name x pos'] e pos) (wSetN i wn) := by
  obtain ⟨te, pe, se⟩ := he
  exact ⟨_, ps_set hN hi hx pe hs hf, ss_setN se⟩
/-- a comprehension given to a name, on one line -/
theorem py_setLc (i : Nat) {elt tg iter : Expr} {scope : Scope} {own : List (Str × Nat)} {is : List Nat} {wi : WI} {wg : WG} {wt : WT} {ifs : List Expr} {py : Pos} (his : ∀ i ∈ is, i ∈ own.map (·.2) := by decide) (hc : X.calm = true) (hN : X.N.Nodup) (hy : X.N[i]? = some x) (hyl : X.env.scope.names.lookup x = some .local)
    (hsw : swapsWith (.ListComp elt [⟨tg, iter, ifs, 0⟩] scope p) (some (.Name x py)) pos.line X.env = pure true) (hi : PXI G X W tg iter wi) (ok : BlkOk X.N X.env.scope scope own)
    (hg : ∀ (s : Shared) (H : Hp) (C : Addr) (cl : List (Str × Addr)) (fp : List Addr), PXG G (X.blk s H scope (compEnvC scope cl C X.env) fp) is tg wg)
    (ht : ∀ (s : Shared) (H : Hp) (C : Addr) (cl : List (Str × Addr)) (fp : List Addr), PXTs G (X.blk s H scope (compEnvC scope cl C X.env) fp) ifs wt)
    (he : ∀ (s : Shared) (H : Hp) (C : Addr) (cl : List (Str × Addr)) (fp : List Addr), PX G (X.blk s H scope (compEnvC scope cl C X.env) fp) W0 elt we) (hs : ∀ x, foldedSetIterable iter X.env x = pure x := by intro _; rfl) :
    PY G X W (.Assign [.Name x py] (.ListComp elt [⟨tg, iter, ifs, 0⟩] scope p) pos) (wAsg [i] (wV (nLc (own.map (·.2)) wi wg wt we)) (wgName i)) := by
  obtain ⟨ti, pi, si⟩ := hi
  refine ⟨_, ps_setLc hc hN hy hyl hsw pi ok (fun s H C cl fp => (hg s H C cl fp).can) (fun s H C cl fp => (ht s H C cl fp).can) (fun s H C cl fp => (he s H C cl fp).can) hs, ?_⟩
  exact ss_asg (se_v (sn_lc his si (sg_of _ _ _) (st_of _ _ _) (se_of _ _ _))) fun M ρ σ H v d Q k r rd w q => q _ _ H (rep_set r rd) (Ex.refl _) diff_set w
theorem py_setLcN (i : Nat) {elt tg iter : Expr} {scope : Scope} {own : List (Str × Nat)} {is : List Nat} {wi : WI} {wg : WG} {wt : WT} {ifs : List Expr} {py : Pos} (his : ∀ i ∈ is, i ∈ own.map (·.2) := by decide) (hc : X.calm = true) (hN : X.N.Nodup) (hy : X.N[i]? = some x) (hyl : X.env.scope.names.lookup x = some .local)
    (hsw : swapsWith (.ListComp elt [⟨tg, iter, ifs, 0⟩] scope p) (some (.Name x py)) pos.line X.env = pure true) (hi : PXI G X W tg iter wi) (ok : BlkOk X.N X.env.scope scope own)
    (hg : ∀ (s : Shared) (H : Hp) (C : Addr) (cl : List (Str × Addr)) (fp : List Addr), PXG G (X.blk s H scope (compEnvC scope cl C X.env) fp) is tg wg)
    (ht : ∀ (s : Shared) (H : Hp) (C : Addr) (cl : List (Str × Addr)) (fp : List Addr), PXTs G (X.blk s H scope (compEnvC scope cl C X.env) fp) ifs wt)
    (he : ∀ (s : Shared) (H : Hp) (C : Addr) (cl : List (Str × Addr)) (fp : List Addr), PX G (X.blk s H scope (compEnvC scope cl C X.env) fp) W0 elt we) (hs : ∀ x, foldedSetIterable iter X.env x = pure x := by intro _; rfl) :
    PY G X W (.Assign [.Name x py] (.ListComp elt [⟨tg, iter, ifs, 0⟩] scope p) pos) (wSetN i (nLc (own.map (·.2)) wi wg wt we)) := by
  obtain ⟨ti, pi, si⟩ := hi
  exact ⟨_, ps_setLc hc hN hy hyl hsw pi ok (fun s H C cl fp => (hg s H C cl fp).can) (fun s H C cl fp => (ht s H C cl fp).can) (fun s H C cl fp => (he s H C cl fp).can) hs, ss_setN (sn_lc his si (sg_of _ _ _) (st_of _ _ _) (se_of _ _ _))⟩
end
end
end Pu
/-! ### the pure layer: what is owned is changed; defs -/
namespace Pu
open PySem PySem.Spec PyProof.Rows L2 Lk Evl
section
variable {G : Gx} {X : Cx} {W : WX} {M : List Addr} {ρ ρ1 : Env} {σ : L2.St} {H H1 : Hp} {e : Expr} {es : List Expr} {pos p : Pos} {wn : WN} {wa : WA} {we : WE}
theorem fz_upd {a : Addr} {o : HO} (m : a ∈ M) : Fz M (upd H a o) = Fz M H := by
  funext b
  unfold Fz
  by_cases h : b ∈ M
  · rw [if_pos h, if_pos h]
  · rw [if_neg h, if_neg h, upd_ne (fun z => h (by rw [z]; exact m))]
theorem own_upd {a b : Addr} {d : D} {o : HO} (m : b ∈ M) (ne : a ≠ b) (h : Own G M H a d) : Own G M (upd H b o) a d := by
  cases d <;> first | exact h.elim | skip
  · obtain ⟨xs, h1, h2⟩ := h; exact ⟨xs, by rw [upd_ne ne]; exact h1, by rw [fz_upd m]; exact h2⟩
  · obtain ⟨kvs, h1, h2, h3⟩ := h; exact ⟨kvs, by rw [upd_ne ne]; exact h1, by rw [fz_upd m]; exact h2, by rw [fz_upd m]; exact h3⟩
  · obtain ⟨dx, fs, h1, h2, h3⟩ := h; exact ⟨dx, fs, by rw [upd_ne ne]; exact h1, h2, by rw [fz_upd m]; exact h3⟩
theorem set_get {α : Type} {l : List α} {i : Nat} {x y : α} (h : l[i]? = some x) (j : Nat) : (l.set i y)[j]? = if j = i then some y else l[j]? := by
  have hi : i < l.length := (List.getElem?_eq_some_iff.mp h).1
  rw [List.getElem?_set]
  by_cases e : i = j
  · rw [if_pos e, if_pos e.symm, if_pos (by omega)]
  · rw [if_neg e, if_neg (Ne.symm e)]
/-- what slot i owns turns -/
theorem go_upd (r : Rep G M ρ σ H) {i : Nat} {a : Addr} {d d' : D} {o : HO} (hi : ρ[i]? = some (.ow d)) (ha : σ[i]? = some (some (.ref a))) (m : a ∈ M) (ow : Own G M (upd H a o) a d') : Go G M σ ρ H (List.set ρ i (Cell.ow d')) (upd H a o) := by
  have g := fun j => set_get (y := Cell.ow d') hi j
  refine ⟨⟨by rw [List.length_set, r.len], fun j e h => ?_, fun j e h => ?_, fun j k b d1 d2 h1 h2 h3 h4 => ?_, fun b hb => ?_, ?_, r.tm⟩, fun j => ?_, fun b u hb n t => ?_⟩
  · rw [g] at h
    split at h
    · cases h
    · obtain ⟨v, h1, h2⟩ := r.fz j e h; exact ⟨v, h1, by rw [fz_upd m]; exact h2⟩
  · rw [g] at h
    split at h
    · rename_i hj; cases h; rw [hj]; exact ⟨a, ha, m, ow⟩
    · rename_i hj
      obtain ⟨b, h1, h2, h3⟩ := r.ow j e h
      exact ⟨b, h1, h2, own_upd m (fun z => hj (r.inj j i a e d h hi (by rw [← z]; exact h1) ha)) h3⟩
  · have old : ∀ {n : Nat} {dd : D}, (List.set ρ i (Cell.ow d'))[n]? = some (.ow dd) → ∃ d0, ρ[n]? = some (.ow d0) := fun {n dd} h => by
      rw [g] at h
      split at h
      · rename_i hn; rw [hn]; exact ⟨d, hi⟩
      · exact ⟨dd, h⟩
    obtain ⟨e1, q1⟩ := old h1
    obtain ⟨e2, q2⟩ := old h2
    exact r.inj j k b e1 e2 q1 q2 h3 h4
  · by_cases e : b = a
    · rw [e]
      obtain ⟨o1, e1, n1, _⟩ := ow.pl
      exact ⟨o1, e1, .inl n1⟩
    · obtain ⟨u, hu, t⟩ := r.trk b hb; exact ⟨u, by rw [upd_ne e]; exact hu, t⟩
  · obtain ⟨b, hb, _, w⟩ := r.ow i d hi
    rw [ha] at hb
    cases hb
    obtain ⟨o0, e0, n1, n2⟩ := w.pl
    exact tabs_upd r.tab e0 n1 n2
  · rw [g]
    split
    · rename_i hj; rw [hj]; exact .inr ⟨d, d', hi, rfl⟩
    · exact .inl rfl
  · exact by rw [upd_ne (fun z => n ⟨i, d, hi, by rw [z]; exact ha⟩)]; exact hb
/-- a list of one's own changed by a method with one value: what it is then, what it gives -/
abbrev LM := List D → D → (List D → D → Prop) → Prop
def wLm (i : Nat) (op : LM) (we : WE) : WE := fun ρ q e => match ρ[i]? with
  | some (.ow (.lst _)) => we ρ (fun s ρ1 => s.val' fun y => match ρ1[i]? with
    | some (.ow (.lst ds)) => op ds y fun ds' d => q (.val d) (List.set ρ1 i (Cell.ow (.lst ds')))
    | _ => False) e
  | _ => False
def LmS (G : Gx) (op : LM) (r : V → List V → Hp → VK → Prop) : Prop := ∀ M H l xs ds v y k, H l = some (.lst xs) → RAll G (Fz M H) xs ds → R G (Fz M H) v y → op ds y k → ∀ Q : VK,
  (∀ xs' ds' u d, RAll G (Fz M H) xs' ds' → R G (Fz M H) u d → k ds' d → Q u (upd H l (.lst xs'))) → r (.ref l) [v] H Q
theorem px_lm (i : Nat) {x : Str} {p1 apos cpos : Pos} {name : Str} {id : String} {op : LM} {r : V → List V → Hp → VK → Prop} (slot : Slot "list" name id) (hty : typeOf (.builtin id) = pure (.type "method_descriptor")) (hm : MtR X id r) (hs : LmS G op r)
    (hv : PE X (.Name x p1) (tVar i)) (ha : PX G X W e we) (h1 : attributeBase (.Name x p1) name X.env (eval (.Name x p1) X.env) = eval (.Name x p1) X.env := by rfl) (h2 : Few X e [] cpos := by rfl)
    (h3 : (apos.endLine == cpos.line) = true := by rfl) (h4 : starEach [e] X.env = (false, eval e X.env) :: starEach [] X.env := by rfl) (h5 : (backTo cpos (starEach [] X.env)).any (·.1) = false := by rfl) (hK : X.K = G.K := by rfl) :
    PX G X W (.Call (.Attribute (.Name x p1) name apos) [e] [] cpos) (wLm i op we) := by
  obtain ⟨te, pe, se⟩ := ha
  refine ⟨_, pe_bmK (K := G.K) PySem.F.plainAttrs_list slot hty hm hv (pa_cons pe pa_nil h4) h1 h2 h3 h4 h5 hK, fun M ρ σ H q eq Q rp w k th => ?_⟩
  unfold wLm at w
  split at w
  · rename_i ds0 hi
    obtain ⟨a, ha, m, xs0, hx0, _⟩ := rp.ow i _ hi
    refine ⟨_, ha, .inl ⟨rfl, xs0, SqL.of hx0⟩, se M ρ σ H _ eq _ rp w (fun s ρ1 v H1 g rs w1 => ?_) th⟩
    obtain ⟨y, ry, w2⟩ := rs.val' w1
    split at w2
    · rename_i ds hd
      obtain ⟨a', ha', m', xs, hx, hr⟩ := g.rep.ow i _ hd
      rw [ha] at ha'; cases ha'
      refine hs M H1 a xs ds v y _ hx hr ry w2 Q fun xs' ds' u d h1 h2 h3 => ?_
      have gu := go_upd g.rep hd ha m (d' := .lst ds') (o := .lst xs') ⟨_, upd_same, by rw [fz_upd m]; exact h1⟩
      refine k (.val d) _ _ _ (g.trans gu) ?_ h3
      show R G (Fz M _) u d
      rw [fz_upd m]; exact h2
    · exact w2.elim
  · exact w.elim
def mAppend : LM := fun ds y k => ds.length < sizeLine ∧ k (ds ++ [y]) .non
theorem append_m : LmS G mAppend (rAppend) := by
  intro M H l xs ds v y k hx hr ry h Q q
  exact ⟨l, xs, v, rfl, rfl, hx, by rw [hr.len]; exact h.1, q _ _ _ _ (hr.app (.cons ry .nil)) R.non h.2⟩
def mExtend : LM := fun ds y k => match y with
  | .lst es => ds.length + es.length ≤ sizeLine ∧ k (ds ++ es) .non
  | _ => False
theorem extend_m : LmS G mExtend rExtend := by
  intro M H l xs ds v y k hx hr ry h Q q
  unfold mExtend at h
  split at h
  · obtain ⟨b, zs, rfl, h1, h2⟩ := ry.lst_inv
    exact ⟨l, b, xs, zs, rfl, rfl, hx, fz_ex _ _ _ _ h1, by rw [hr.len, h2.len]; exact h.1, q _ _ _ _ (hr.app h2) R.non h.2⟩
  · exact h.elim
def wLm0 (i : Nat) (op : List D → (List D → D → Prop) → Prop) : WE := fun ρ q _ => match ρ[i]? with
  | some (.ow (.lst ds)) => op ds fun ds' d => q (.val d) (List.set ρ i (Cell.ow (.lst ds')))
  | _ => False
theorem px_pop (i : Nat) {x : Str} {p1 apos cpos : Pos} (hv : PE X (.Name x p1) (tVar i)) (h1 : attributeBase (.Name x p1) "pop" X.env (eval (.Name x p1) X.env) = eval (.Name x p1) X.env := by rfl)
    (h3 : (apos.endLine == cpos.line) = true := by rfl) (hK : X.K = G.K := by rfl) :
    PX G X W (.Call (.Attribute (.Name x p1) "pop" apos) [] [] cpos) (wLm0 i fun ds k => ∃ y, ds[ds.length - 1]? = some y ∧ k ds.dropLast y) := by
  refine ⟨_, pe_bm0K (K := G.K) PySem.F.plainAttrs_list PySem.F.slot_list_pop PySem.F.type_list_pop mt_pop hv h1 h3 hK, fun M ρ σ H q eq Q rp w k th => ?_⟩
  unfold wLm0 at w
  split at w
  · rename_i ds hi
    obtain ⟨a, ha, m, xs, hx, hr⟩ := rp.ow i _ hi
    obtain ⟨y, hy, w⟩ := w
    obtain ⟨v, hv', rv⟩ := hr.get hy
    refine ⟨_, ha, .inl ⟨rfl, xs, SqL.of hx⟩, a, xs, v, rfl, rfl, hx, by rw [hr.len]; exact hv', ?_⟩
    have dl : RAll G (Fz M H) xs.dropLast ds.dropLast := by rw [List.dropLast_eq_take, List.dropLast_eq_take, hr.len]; exact hr.take _
    have gu := go_upd rp hi ha m (d' := .lst ds.dropLast) (o := .lst xs.dropLast) ⟨_, upd_same, by rw [fz_upd m]; exact dl⟩
    refine k (.val y) _ _ _ gu ?_ w
    show R G (Fz M _) v y
    rw [fz_upd m]; exact rv
  · exact w.elim
/-- xs[i] = v -/
def wStore (j : Nat) (we wi : WE) : WS := fun P ρ => we ρ (fun s ρ1 => s.val' fun y => match ρ1[j]? with
  | some (.ow (.lst _)) => wi ρ1 (fun s2 ρ2 => s2.gets ρ2 fun i => match ρ2[j]?, i with
    | some (.ow (.lst ds)), .int i => ∃ k, ixN ds.length i = some k ∧ P.nx (List.set ρ2 j (Cell.ow (.lst (ds.set k y))))
    | _, _ => False) P.ex
  | _ => False) P.ex
theorem py_store (j : Nat) {x : Str} {p1 p2 : Pos} {i : Expr} {wi : WE} (hv : PE X (.Name x p1) (tVar j)) (he : PX G X W e we) (hi : PX G X W i wi) (hs : swapsWithSole [.Subscript (.Name x p1) i p2] e pos.line X.env = pure false := by rfl) (hw : swappedStores [.Subscript (.Name x p1) i p2] e X.env = pure none := by rfl)
    (h1 : (assignEach [.Subscript (.Name x p1) i p2] X.env).map (·.2) = [assign (.Subscript (.Name x p1) i p2) X.env] := by rfl)
    (ha : ∀ v, assign (.Subscript (.Name x p1) i p2) X.env v = (do
      let ov ← holding [v] (eval (.Name x p1) X.env)
      let iv ← holding [v, ov] (eval i X.env)
      standAt p2
      holding [v, ov, iv] (setItem ov iv v)
      release [v, ov, iv] []) := by intro _; rfl) : PY G X W (.Assign [.Subscript (.Name x p1) i p2] e pos) (wStore j we wi) := by
  obtain ⟨te, pe, se⟩ := he
  obtain ⟨ti, pi, si⟩ := hi
  refine ⟨_, ps_asg pe (pg_sub hv pi set_list ha) hs hw h1, fun c M ρ σ H Z P r w k => ?_⟩
  refine se M ρ σ H _ _ _ r.rep w (fun s ρ1 v H1 g rs w1 => ?_) (k.thr r)
  obtain ⟨y, ry, w2⟩ := rs.val' w1
  split at w2
  · rename_i ds0 h0
    obtain ⟨a, ha', m, _⟩ := g.rep.ow j _ h0
    have r1 := r.go g
    refine ⟨_, ha', si M ρ1 σ H1 _ _ _ r1.rep w2 (fun s2 ρ2 iv H2 g2 rs2 w3 => ?_) (k.thr r1)⟩
    obtain ⟨id, ai, w4⟩ := rs2.arg g2.rep w3
    split at w4
    · rename_i ds n hd
      obtain ⟨kk, hk, w5⟩ := w4
      obtain ⟨a2, ha2, _, xs, hx, hr⟩ := g2.rep.ow j _ hd
      rw [ha'] at ha2; cases ha2
      refine ⟨a, xs, n, kk, rfl, ai.int, hx, by rw [hr.len]; exact hk, ?_⟩
      have gu := go_upd g2.rep hd ha' m (d' := .lst (ds.set kk y)) (o := .lst (xs.set kk v)) ⟨_, upd_same, by rw [fz_upd m]; exact hr.set (ry.ex (g2.fz g.rep)) kk⟩
      exact k.nx M _ σ _ (r1.go (g2.trans gu)) w5
    · exact w4.elim
  · exact w2.elim
/-! ### a container of one's own becomes a value -/
def wFreeze (i : Nat) (w : WS) : WS := fun P ρ => i ∉ P.pins ∧ match ρ[i]? with
  | some (.ow d) => w P (List.set ρ i (Cell.fz d))
  | _ => False
theorem rep_freeze {c : Cxt} (r : RepS G c M ρ σ H) {i : Nat} {d : D} (hi : ρ[i]? = some (.ow d)) (hp : i ∉ c.pins) : ∃ M', RepS G c M' (List.set ρ i (Cell.fz d)) σ H := by
  obtain ⟨a, ha, m, ow⟩ := r.rep.ow i d hi
  have g := fun j => set_get (y := Cell.fz d) hi j
  have sub : ∀ b ∈ M.filter (· ≠ a), b ∈ M := fun b hb => (List.mem_filter.mp hb).1
  have na : a ∉ M.filter (· ≠ a) := fun z => by have := (List.mem_filter.mp z).2; simp at this
  have keepM : ∀ b ∈ M, b ≠ a → b ∈ M.filter (· ≠ a) := fun b hb n => List.mem_filter.mpr ⟨hb, by simpa using n⟩
  have e : Ex (Fz M H) (Fz (M.filter (· ≠ a)) H) := fz_anti sub
  have less : ∀ {b : Addr} {d : D}, Own G M H b d → Own G (M.filter (· ≠ a)) H b d := fun {b d} h => by
    cases d <;> first | exact h.elim | skip
    · obtain ⟨xs, h1, h2⟩ := h; exact ⟨xs, h1, h2.ex e⟩
    · obtain ⟨kvs, h1, h2, h3⟩ := h; exact ⟨kvs, h1, h2.ex e, h3.ex e⟩
    · obtain ⟨dx, fs, h1, h2, h3⟩ := h; exact ⟨dx, fs, h1, h2, h3.ex e⟩
  have ra : R G (Fz (M.filter (· ≠ a)) H) (.ref a) d := by
    have ow' := less ow
    cases d <;> first | exact ow'.elim | skip
    · obtain ⟨xs, h1, h2⟩ := ow'; exact .lst (fz_in na h1) h2
    · obtain ⟨kvs, h1, h2, h3⟩ := ow'; exact .dct ⟨kvs, .inl (fz_in na h1), rfl, rfl⟩ h2 h3
    · obtain ⟨dx, fs, h1, h2, h3⟩ := ow'; exact .obj (fz_in na h1) h2 h3
  have old : ∀ {n : Nat} {dd : D}, (List.set ρ i (Cell.fz d))[n]? = some (.ow dd) → n ≠ i ∧ ρ[n]? = some (.ow dd) := fun {n dd} h => by
    rw [g] at h
    split at h
    · cases h
    · rename_i hn; exact ⟨hn, h⟩
  -- what is owned at the beginning is pinned
  have nV : ¬ c.V0 a := fun z => by
    obtain ⟨j, hj, ej⟩ := c.hV a z
    obtain ⟨e1, dj, e2⟩ := r.pin j hj
    exact hp (by rw [r.rep.inj i j a d dj hi e2 ha (by rw [e1]; exact ej)]; exact hj)
  have h0 : New c.H0 a := (r.own a ⟨i, d, hi, ha⟩).resolve_left nV
  refine ⟨M.filter (· ≠ a), ⟨by rw [List.length_set, r.rep.len], fun j e' h => ?_, fun j e' h => ?_, fun j k b d1 d2 h1 h2 h3 h4 => r.rep.inj j k b d1 d2 (old h1).2 (old h2).2 h3 h4, fun b hb => r.rep.trk b (sub b hb), r.rep.tab, fun p hp => keepM _ (r.rep.tm p hp) fun z => ow.noTab r.rep.tab ⟨p, hp, z⟩⟩, fun b hb => keepM b (r.sub b hb) fun z => ?_, r.kp, fun b h => ?_, fun j hj => ?_, r.old, fun b hb => r.new b (sub b hb), r.tT, fun f hf => (r.fr f hf).trans e⟩
  · rw [g] at h
    split at h
    · rename_i hj; cases h; rw [hj]; exact ⟨_, ha, ra⟩
    · obtain ⟨v, h1, h2⟩ := r.rep.fz j e' h; exact ⟨v, h1, h2.ex e⟩
  · obtain ⟨hn, h'⟩ := old h
    obtain ⟨b, h1, h2, h3⟩ := r.rep.ow j e' h'
    exact ⟨b, h1, keepM b h2 fun z => hn (r.rep.inj j i a e' d h' hi (by rw [← z]; exact h1) ha), less h3⟩
  · obtain ⟨o, ho, t⟩ := c.hM b hb
    rw [z] at ho t
    rcases t with t | t
    · exact h0 o ho t
    · rw [r.tT] at t; exact ow.noTab r.rep.tab t
  · obtain ⟨j, e', h1, h2⟩ := h
    exact r.own b ⟨j, e', (old h1).2, h2⟩
  · have hne : j ≠ i := fun z => hp (by rw [← z]; exact hj)
    rw [g, if_neg hne]
    exact r.pin j hj
theorem py_freeze (i : Nat) {st : List Stmt} {w : WS} (h : PYs G X W st w) : PYs G X W st (wFreeze i w) := by
  obtain ⟨t, p, s⟩ := h
  refine ⟨t, p, fun c M ρ σ H Z P r hw k => ?_⟩
  obtain ⟨hp, hw⟩ := hw
  split at hw
  · rename_i d hi
    obtain ⟨M', r'⟩ := rep_freeze r hi (by rw [← k.pins]; exact hp)
    exact s c M' _ σ H Z P r' hw k
  · exact hw.elim
/-- return of a new container -/
def wRetNew (wn : WN) : WS := fun P ρ => wn ρ (fun d ρ1 => P.rn d ρ1) P.ex
theorem py_retNew (h : PXN G X W e wn) : PY G X W (.Return (some e) pos) (wRetNew wn) := by
  obtain ⟨t, p, s⟩ := h
  refine ⟨_, ps_ret p, fun c M ρ σ H Z P r w k => s M ρ σ H _ _ _ r.rep w (fun d ρ' a H' g n h0 rp ow q => ?_) (k.thr r)⟩
  exact k.rn d M ρ' σ a H' (r.go g) n (r.old a h0) rp ow q
end
end Pu
/-! ### the pure layer: defs and their calls -/
namespace Pu
open PySem PySem.Spec PyProof.Rows L2 Lk Evl
/-- a def's promise over cells: values, and what the caller owns and lends -/
abbrev PSp := List Cell → (D → List Cell → Prop) → (Str → List Str → List D → List Cell → Prop) → Prop
def NoUn (cs : List Cell) : Prop := ∀ c ∈ cs, c ≠ .un
def RetOk (G : Gx) (new : Bool) (M : List Addr) (cs : List Cell) (vs : List V) (H H' : Hp) (v : V) (d : D) : Prop :=
  match new with
  | false => R G (Fz M H') v d
  | true => ∃ a, v = .ref a ∧ a ∉ M ∧ New H a ∧ Rep G (a :: M) cs (vs.map some) H' ∧ Own G (a :: M) H' a d
def spP (G : Gx) (n : Nat) (new : Bool) (psp : PSp) : Sp := fun vs H Q E => vs.length = n ∧ ∃ M cells q eq, NoUn cells ∧ Rep G M cells (vs.map some) H ∧ psp cells q eq ∧
  (∀ d cs v H', Go G M (vs.map some) cells H cs H' → RetOk G new M cs vs H H' v d → q d cs → Q v H') ∧
  (∀ C ns xs cs dx H', Go G M (vs.map some) cells H cs H' → XdAt G M H' dx ns xs → eq C ns xs cs → E (.ref (G.cl C)) dx H')
def Cell.isOw : Cell → Bool
  | .ow _ => true
  | _ => false
def owIdx (cs : List Cell) : List Nat := (List.range cs.length).filter fun i => match cs[i]? with
  | some c => c.isOw
  | none => false
theorem mem_owIdx {cs : List Cell} {i : Nat} : i ∈ owIdx cs ↔ ∃ d, cs[i]? = some (.ow d) := by
  unfold owIdx
  rw [List.mem_filter, List.mem_range]
  constructor
  · rintro ⟨h1, h2⟩
    split at h2
    · rename_i c e
      cases c <;> first | (cases h2; done) | exact ⟨_, e⟩
    · cases h2
  · rintro ⟨d, e⟩
    exact ⟨(List.getElem?_eq_some_iff.mp e).1, by rw [e]; rfl⟩
def outC : List Cell → Env → List Cell
  | .ow _ :: cs, c :: ρ => c :: outC cs ρ
  | c :: cs, _ :: ρ => c :: outC cs ρ
  | cs, [] => cs
  | [], _ => []
theorem outC_nil (cs : List Cell) : outC cs [] = cs := by
  cases cs with
  | nil => rfl
  | cons c cs => cases c <;> rfl
theorem outC_len : ∀ (cs : List Cell) (ρ : Env), (outC cs ρ).length = cs.length
  | [], ρ => by cases ρ <;> rfl
  | c :: cs, [] => by rw [outC_nil]
  | c :: cs, d :: ρ => by cases c <;> simp [outC, outC_len cs ρ]
theorem outC_ow : ∀ {cs : List Cell} {ρ : Env} {i : Nat} {d : D} {c : Cell}, cs[i]? = some (.ow d) → ρ[i]? = some c → (outC cs ρ)[i]? = some c
  | [], _, _, _, _, h, _ => by simp at h
  | _ :: _, [], _, _, _, _, h => by simp at h
  | c :: cs, x :: ρ, 0, d, e, h, k => by simp at h k; subst h; subst k; rfl
  | c :: cs, x :: ρ, i + 1, d, e, h, k => by
    have := outC_ow (cs := cs) (ρ := ρ) (i := i) (by simpa using h) (by simpa using k)
    cases c <;> simpa [outC] using this
theorem outC_fz : ∀ {cs : List Cell} {ρ : Env} {i : Nat}, (∀ d, cs[i]? ≠ some (.ow d)) → (outC cs ρ)[i]? = cs[i]?
  | [], ρ, i, _ => by cases ρ <;> rfl
  | c :: cs, [], _, _ => by rw [outC_nil]
  | c :: cs, x :: ρ, 0, h => by
    cases c with
    | ow d => exact absurd rfl (h d)
    | fz d => rfl
    | un => rfl
  | c :: cs, x :: ρ, i + 1, h => by
    have := outC_fz (cs := cs) (ρ := ρ) (i := i) fun d z => h d (by simpa using z)
    cases c <;> simpa [outC] using this
section
variable {G : Gx} {M : List Addr} {cells : List Cell} {vs : List V} {H : Hp} {N : List Str}
theorem pad_get {α β : Type} {l : List α} {n : Nat} {x : α} {i : Nat} {y : α} (h : (l ++ List.replicate n x)[i]? = some y) : l[i]? = some y ∨ (y = x ∧ l.length ≤ i) := by
  by_cases hi : i < l.length
  · rw [List.getElem?_append_left hi] at h; exact .inl h
  · rw [List.getElem?_append_right (by omega)] at h
    exact .inr ⟨(List.eq_of_mem_replicate (List.mem_of_getElem? h)), by omega⟩
/-- the slots at the entry -/
theorem rep_start (r : Rep G M cells (vs.map some) H) (hl : vs.length ≤ N.length) : Rep G M (cells ++ List.replicate (N.length - cells.length) .un) (L2.start N vs) H := by
  have e : cells.length = vs.length := by rw [r.len, List.length_map]
  have get : ∀ {i : Nat} {c : Cell}, (cells ++ List.replicate (N.length - cells.length) Cell.un)[i]? = some c → c ≠ .un → cells[i]? = some c := fun {i c} h n => by
    rcases pad_get (β := Nat) h with h | h
    · exact h
    · exact absurd h.1 n
  have up : ∀ {i : Nat} {v : Option V}, (vs.map some)[i]? = some v → (L2.start N vs)[i]? = some v := fun {i v} h => by
    unfold L2.start
    rw [List.getElem?_append_left (List.getElem?_eq_some_iff.mp h).1]; exact h
  have down : ∀ {i : Nat} {v : V}, (L2.start N vs)[i]? = some (some v) → (vs.map some)[i]? = some (some v) := fun {i v} h => by
    unfold L2.start at h
    rcases pad_get (β := Nat) h with h | h
    · exact h
    · cases h.1
  refine ⟨by unfold L2.start; simp; omega, fun i d h => ?_, fun i d h => ?_, fun i j a d d' h1 h2 h3 h4 => r.inj i j a d d' (get h1 (by simp)) (get h2 (by simp)) (down h3) (down h4), r.trk, r.tab, r.tm⟩
  · obtain ⟨v, h1, h2⟩ := r.fz i d (get h (by simp)); exact ⟨v, up h1, h2⟩
  · obtain ⟨a, h1, h2⟩ := r.ow i d (get h (by simp)); exact ⟨a, up h1, h2⟩
def Cxt.entry (G : Gx) (M : List Addr) (cells : List Cell) (vs : List V) (H : Hp) (N : List Str) (r : Rep G M cells (vs.map some) H) (hl : vs.length ≤ N.length) : Cxt where
  M0 := M
  V0 := Seen cells (vs.map some)
  H0 := H
  σ0 := L2.start N vs
  pins := owIdx cells
  frs := []
  hV := fun a ⟨i, d, h1, h2⟩ => ⟨i, mem_owIdx.mpr ⟨d, h1⟩, by
    unfold L2.start
    rw [List.getElem?_append_left (List.getElem?_eq_some_iff.mp h2).1]; exact h2⟩
  T := G.tabs
  hM := r.trk
theorem reps_start (r : Rep G M cells (vs.map some) H) (hl : vs.length ≤ N.length) : RepS G (.entry G M cells vs H N r hl) M (cells ++ List.replicate (N.length - cells.length) .un) (L2.start N vs) H := by
  refine ⟨rep_start r hl, fun a h => h, fun b o h _ _ => h, fun a ⟨i, d, h1, h2⟩ => ?_, fun i hi => ⟨rfl, ?_⟩, fun a h => h, fun a h => .inl h, rfl, fun f hf => nomatch hf⟩
  · left
    rcases pad_get (β := Nat) h1 with h1 | h1
    · refine ⟨i, d, h1, ?_⟩
      unfold L2.start at h2
      rcases pad_get (β := Nat) h2 with h2 | h2
      · exact h2
      · cases h2.1
    · cases h1.1
  · obtain ⟨d, e⟩ := mem_owIdx.mp hi
    exact ⟨d, by rw [List.getElem?_append_left (List.getElem?_eq_some_iff.mp e).1]; exact e⟩
/-- behind the body: for the caller -/
theorem exit_rep (r : Rep G M cells (vs.map some) H) (hl : vs.length ≤ N.length) {M' M1 M2 : List Addr} {ρ : Env} {σ : L2.St} {H' : Hp} (q : RepS G (.entry G M cells vs H N r hl) M' ρ σ H') (rp : Rep G M2 ρ σ H') (s12 : ∀ b ∈ M1, b ∈ M2) (s01 : ∀ b ∈ M, b ∈ M1)
    (ex : Ex (Fz M H) (Fz M1 H')) (tr : ∀ b ∈ M1, ∃ o, H' b = some o ∧ (NoT o ∨ ∃ p ∈ G.tabs, p.1 = b)) : Rep G M1 (outC cells ρ) (vs.map some) H' := by
  have an : Ex (Fz M2 H') (Fz M1 H') := fz_anti s12
  have ow' : ∀ {i : Nat} {d : D}, (outC cells ρ)[i]? = some (.ow d) → (∃ d0, cells[i]? = some (.ow d0)) ∧ ρ[i]? = some (.ow d) := fun {i d} h => by
    by_cases ho : ∃ d0, cells[i]? = some (.ow d0)
    · obtain ⟨d0, h0⟩ := ho
      obtain ⟨_, d1, h1⟩ := q.pin i (mem_owIdx.mpr ⟨d0, h0⟩)
      have := outC_ow h0 h1
      rw [this] at h
      cases h
      exact ⟨⟨d0, h0⟩, h1⟩
    · rw [outC_fz fun d z => ho ⟨d, z⟩] at h
      exact absurd ⟨d, h⟩ ho
  have at0 : ∀ {i : Nat} {d0 : D}, cells[i]? = some (.ow d0) → σ[i]? = (vs.map some)[i]? := fun {i d0} h => by
    have h1 := (q.pin i (mem_owIdx.mpr ⟨d0, h⟩)).1
    rw [h1]
    show (L2.start N vs)[i]? = _
    obtain ⟨a, h2, _⟩ := r.ow i d0 h
    unfold L2.start
    rw [List.getElem?_append_left (List.getElem?_eq_some_iff.mp h2).1]
  refine ⟨by rw [outC_len]; exact r.len, fun i d h => ?_, fun i d h => ?_, fun i j a d d' h1 h2 h3 h4 => ?_, tr, rp.tab, fun p hp => s01 _ (r.tm p hp)⟩
  · have nw : ∀ d0, cells[i]? ≠ some (.ow d0) := fun d0 z => by
      obtain ⟨_, d1, h1⟩ := q.pin i (mem_owIdx.mpr ⟨d0, z⟩)
      rw [outC_ow z h1] at h; cases h
    rw [outC_fz nw] at h
    obtain ⟨v, h1, h2⟩ := r.fz i d h
    exact ⟨v, h1, h2.ex ex⟩
  · obtain ⟨⟨d0, h0⟩, h1⟩ := ow' h
    obtain ⟨a, e1, e2, e3⟩ := rp.ow i d h1
    obtain ⟨b, f1, f2, _⟩ := r.ow i d0 h0
    rw [at0 h0, f1] at e1
    cases e1
    refine ⟨_, f1, s01 _ f2, ?_⟩
    cases d <;> first | exact e3.elim | skip
    · obtain ⟨xs, h1, h2⟩ := e3; exact ⟨xs, h1, h2.ex an⟩
    · obtain ⟨kvs, h1, h2, h3⟩ := e3; exact ⟨kvs, h1, h2.ex an, h3.ex an⟩
    · obtain ⟨dx, fs, h1, h2, h3⟩ := e3; exact ⟨dx, fs, h1, h2, h3.ex an⟩
  · obtain ⟨⟨d0, h0⟩, _⟩ := ow' h1
    obtain ⟨⟨d1, h5⟩, _⟩ := ow' h2
    exact r.inj i j a d0 d1 h0 h5 h3 h4
theorem go_exit (r : Rep G M cells (vs.map some) H) (hl : vs.length ≤ N.length) {M' : List Addr} {ρ : Env} {σ : L2.St} {H' : Hp} (q : RepS G (.entry G M cells vs H N r hl) M' ρ σ H') : Go G M (vs.map some) cells H (outC cells ρ) H' := by
  refine ⟨exit_rep r hl q q.rep q.sub (fun _ h => h) (fun b o h => ?_) fun a ha => ?_, fun i => ?_, q.kp⟩
  · obtain ⟨n, e, t⟩ := fz_of3 h
    exact fz_in n (q.kp b o e (fun z => n (r.seenM z)) t) t
  · exact q.rep.trk a (q.sub a ha)
  · by_cases ho : ∃ d0, cells[i]? = some (.ow d0)
    · obtain ⟨d0, h0⟩ := ho
      obtain ⟨_, d1, h1⟩ := q.pin i (mem_owIdx.mpr ⟨d0, h0⟩)
      exact .inr ⟨d0, d1, h0, outC_ow h0 h1⟩
    · exact .inl (outC_fz fun d z => ho ⟨d, z⟩)
end
/-- what is wanted behind a body -/
def endsP (new : Bool) (cells : List Cell) (q : D → List Cell → Prop) (eq : Str → List Str → List D → List Cell → Prop) : PEnds where
  pins := owIdx cells
  nx := fun ρ => new = false ∧ q .non (outC cells ρ)
  rt := fun s ρ => match s with
    | .val d => new = false ∧ q d (outC cells ρ)
    | .slot i => i ∉ owIdx cells ∧ match ρ[i]? with
      | some (.ow d) => q d (outC cells ρ)
      | _ => False
  rn := fun d ρ => q d (outC cells ρ)
  ex := fun C ns vs ρ => eq C ns vs (outC cells ρ)
section
variable {G : Gx} {P : Program} {wd : World} {mg : Str → Option Value} {base : Heap} {k : Nat} {f : Addr} {fd : FuncData} {N ps : List Str} {x qual : Str} {st : Stmt} {psp : PSp} {new : Bool} {w : WS}
theorem ends_ok {M : List Addr} {cells : List Cell} {vs : List V} {H : Hp} {q : D → List Cell → Prop} {eq : Str → List Str → List D → List Cell → Prop} {Q : VK} {W : WX} (r : Rep G M cells (vs.map some) H) (hl : vs.length ≤ N.length)
    (hq : ∀ d cs v H', Go G M (vs.map some) cells H cs H' → RetOk G new M cs vs H H' v d → q d cs → Q v H')
    (he : ∀ C ns xs cs σ dx H', Go G M (vs.map some) cells H cs H' → XdAt G M H' dx ns xs → eq C ns xs cs → W (.ref (G.cl C)) dx σ H') :
    EndsOk G W (.entry G M cells vs H N r hl) { nx := fun _ H' => Q .non H', rt := Q } (endsP new cells q eq) := by
  have ret : ∀ (d : D) M' ρ σ a H' M2, RepS G (.entry G M cells vs H N r hl) M' ρ σ H' → a ∉ M → New H a → Rep G M2 ρ σ H' → (∀ b ∈ a :: M, b ∈ M2) → Own G M2 H' a d → q d (outC cells ρ) → Q (.ref a) H' := by
    intro d M' ρ σ a H' M2 rs na h0 rp2 sub ow qq
    have g := go_exit r hl rs
    have an : Ex (Fz M2 H') (Fz (a :: M) H') := fz_anti sub
    have ow1 : Own G (a :: M) H' a d := by
      cases d <;> first | exact ow.elim | skip
      · obtain ⟨xs, h1, h2⟩ := ow; exact ⟨xs, h1, h2.ex an⟩
      · obtain ⟨kvs, h1, h2, h3⟩ := ow; exact ⟨kvs, h1, h2.ex an, h3.ex an⟩
      · obtain ⟨dx, fs, h1, h2, h3⟩ := ow; exact ⟨dx, fs, h1, h2, h3.ex an⟩
    refine hq d _ _ _ g ?_ qq
    cases new with
    | false => exact own_r na ow1
    | true =>
      refine ⟨a, rfl, na, h0, exit_rep r hl rs rp2 sub (fun b hb => List.mem_cons_of_mem _ hb) (fun b o h => ?_) (fun b hb => rp2.trk b (sub b hb)), ow1⟩
      obtain ⟨n, e, t⟩ := fz_of3 h
      refine fz_in (fun z => ?_) (rs.kp b o e (fun z => n (r.seenM z)) t) t
      rcases List.mem_cons.mp z with z | z
      · rw [z] at e; exact (h0 o e t).elim
      · exact n z
  refine ⟨rfl, fun M' ρ σ H' rs w => ?_, fun s M' ρ σ v H' rs hv w => ?_, fun d M' ρ σ a H' rs na h0 rp ow w => ?_, fun _ _ _ _ _ w => w.elim, fun _ _ _ _ _ w => w.elim, fun C ns xs M' ρ σ dx H' rs hx w => ?_⟩
  · obtain ⟨e, w⟩ := w
    subst e
    exact hq _ _ _ _ (go_exit r hl rs) R.non w
  · cases s with
    | val d =>
      obtain ⟨e, w⟩ := w
      subst e
      exact hq _ _ _ _ (go_exit r hl rs) (R.ex (fz_anti rs.sub) hv) w
    | slot i =>
      obtain ⟨hi, w⟩ := w
      obtain ⟨hv, d, hd⟩ := hv
      simp only [hd] at w
      obtain ⟨a, e, m, ow⟩ := rs.rep.ow i d hd
      rw [hv] at e
      cases e
      have sn : Seen ρ σ a := ⟨i, d, hd, hv⟩
      have nV : ¬ Seen cells (vs.map some) a := fun z => by
        obtain ⟨j, dj, e1, e2⟩ := z
        obtain ⟨e3, dj2, e4⟩ := rs.pin j (mem_owIdx.mpr ⟨dj, e1⟩)
        have e5 : σ[j]? = some (some (.ref a)) := by
          rw [e3]
          show (L2.start N vs)[j]? = _
          unfold L2.start
          rw [List.getElem?_append_left (List.getElem?_eq_some_iff.mp e2).1]; exact e2
        have : i = j := rs.rep.inj i j a d dj2 hd e4 hv e5
        exact hi (by rw [this]; exact mem_owIdx.mpr ⟨dj, e1⟩)
      have h0 : New H a := (rs.own a sn).resolve_left nV
      have na : a ∉ M := fun z => by
        obtain ⟨o, ho, t⟩ := r.trk a z
        rcases t with t | t
        · exact h0 o ho t
        · exact ow.noTab rs.rep.tab t
      refine ret d M' ρ σ a H' M' rs na h0 rs.rep (fun b hb => ?_) ow w
      rcases List.mem_cons.mp hb with rfl | hb
      · exact m
      · exact rs.sub b hb
  · exact ret d M' ρ σ a H' (a :: M') rs (fun z => na (rs.sub a z)) h0 rp (fun b hb => by
      rcases List.mem_cons.mp hb with rfl | hb
      · exact List.mem_cons_self
      · exact List.mem_cons_of_mem _ (rs.sub b hb)) ow w
  · refine he C ns xs _ σ dx H' (go_exit r hl rs) ?_ w
    cases dx with
    | none => exact hx
    | some a => obtain ⟨fs, h1, h2, h3⟩ := hx; exact ⟨fs, fz_anti rs.sub _ _ h1, h2, h3.ex (fz_anti rs.sub)⟩
/-- a def by its body: no exception leaves it -/
theorem fnP (F : Fun G.K x qual st f fd) (S : FnScope N ps (defScope st)) (hn : ps.length ≤ N.length)
    (hb : ∀ (cdv : Value) (A : Around) (outer : List PySem.Env) (s : Shared) (H : Hp) (E : XK), (A.deeper (envOfC qual (defScope st) s.heap.objs.size f cdv)).guards = some [] → Room k (A.deeper (envOfC qual (defScope st) s.heap.objs.size f cdv)) →
      PYs G (cxOf CX0 P wd G.K mg base N qual (defScope st) f cdv A outer s H E).nox W0 (defBody st) w)
    (hw : ∀ cells q eq, cells.length = ps.length → psp cells q eq → w (endsP new cells q (fun _ _ _ _ => False)) (cells ++ List.replicate (N.length - cells.length) .un)) :
    FnG P wd G.K mg base CX0 (k + 1) f fd ps (spP G ps.length new psp) := by
  refine Fun.okG F S (fun vs H Q E h => h.1) (fun cdv A outer s H vs Q E hga hr h => ?_)
  obtain ⟨hl, M, cells, q, eq, nu, rp, hp, hq, he⟩ := h
  obtain ⟨t, pt, stt⟩ := hb cdv A outer s H E hga hr
  have hl' : vs.length ≤ N.length := by rw [hl]; exact hn
  have hc : cells.length = ps.length := by rw [rp.len, List.length_map, hl]
  exact ⟨t, pt, stt _ M _ _ H _ _ (reps_start rp hl') (hw cells q eq hc hp) (ends_ok rp hl' hq fun _ _ _ _ _ _ _ _ _ z => z)⟩
/-- .. exceptions may leave it -/
theorem fnX (F : Fun G.K x qual st f fd) (S : FnScope N ps (defScope st)) (hn : ps.length ≤ N.length)
    (hb : ∀ (cdv : Value) (A : Around) (outer : List PySem.Env) (s : Shared) (H : Hp) (E : XK), (A.deeper (envOfC qual (defScope st) s.heap.objs.size f cdv)).guards = some [] → Room k (A.deeper (envOfC qual (defScope st) s.heap.objs.size f cdv)) →
      PYs G (cxOf (L2.CX P wd) P wd G.K mg base N qual (defScope st) f cdv A outer s H E) (fun cls d _ H => E cls d H) (defBody st) w)
    (hw : ∀ cells q eq, cells.length = ps.length → psp cells q eq → w (endsP new cells q eq) (cells ++ List.replicate (N.length - cells.length) .un)) :
    FnG P wd G.K mg base (L2.CX P wd) (k + 1) f fd ps (spP G ps.length new psp) := by
  obtain ⟨oc, od, kV, doc, pm, an, cdv, ct, osl, rfl, lk, hcd⟩ := F.ex
  refine fn_ofG lk hcd S (fun vs H Q E h => h.1) fun A outer s H vs Q E hga hr h => ?_
  obtain ⟨hl, M, cells, q, eq, nu, rp, hp, hq, he⟩ := h
  obtain ⟨t, pt, stt⟩ := hb cdv A outer s H E hga hr
  have hl' : vs.length ≤ N.length := by rw [hl]; exact hn
  have hc : cells.length = ps.length := by rw [rp.len, List.length_map, hl]
  exact ⟨t, pt, stt _ M _ _ H _ _ (reps_start rp hl') (hw cells q eq hc hp) (ends_ok rp hl' hq fun C ns xs cs _ dx H' g hx z => he C ns xs cs dx H' g hx z)⟩
end
/-! ### calls -/
def cellOf (ρ : Env) : Src → Cell
  | .val d => .fz d
  | .slot i => match ρ[i]? with
    | some (.ow d) => .ow d
    | _ => .un
/-- the slots that were lent, as they came back -/
def wbk : Env → List Src → List Cell → Env
  | ρ, .slot i :: ss, .ow d :: cs => wbk (List.set ρ i (Cell.ow d)) ss cs
  | ρ, _ :: ss, _ :: cs => wbk ρ ss cs
  | ρ, _, _ => ρ
def slots : List Src → List Nat
  | [] => []
  | .slot i :: ss => i :: slots ss
  | .val _ :: ss => slots ss
theorem mem_slots : ∀ {ss : List Src} {i : Nat}, i ∈ slots ss ↔ Src.slot i ∈ ss
  | [], i => by simp [slots]
  | .slot j :: ss, i => by simp [slots, mem_slots (ss := ss)]
  | .val d :: ss, i => by simp [slots, mem_slots (ss := ss)]
/-- distinct slots: each comes back from its own place -/
theorem wbk_get : ∀ {ss : List Src} {cs : List Cell} {ρ : Env} {i : Nat}, (slots ss).Nodup → i < ρ.length → (∃ (n : Nat) (d : D), ss[n]? = some (.slot i) ∧ cs[n]? = some (.ow d) ∧ (wbk ρ ss cs)[i]? = some (.ow d)) ∨
    ((∀ n : Nat, ss[n]? = some (.slot i) → ∀ d, cs[n]? ≠ some (.ow d)) ∧ (wbk ρ ss cs)[i]? = ρ[i]?)
  | [], cs, ρ, i, _, _ => .inr ⟨by simp, by cases cs <;> rfl⟩
  | s :: ss, [], ρ, i, _, _ => .inr ⟨by simp, by cases s <;> rfl⟩
  | .val d0 :: ss, c :: cs, ρ, i, h, hi => by
    have e : wbk ρ (.val d0 :: ss) (c :: cs) = wbk ρ ss cs := rfl
    rw [e]
    rcases wbk_get (ss := ss) (cs := cs) (ρ := ρ) (i := i) h hi with ⟨n, d, h1, h2, h3⟩ | ⟨h1, h2⟩
    · exact .inl ⟨n + 1, d, by simpa using h1, by simpa using h2, h3⟩
    · exact .inr ⟨fun n hn d z => by
        cases n with
        | zero => simp at hn
        | succ n => exact h1 n (by simpa using hn) d (by simpa using z), h2⟩
  | .slot j :: ss, c :: cs, ρ, i, h, hi => by
    have h' := List.nodup_cons.mp (show (j :: slots ss).Nodup from h)
    have shift : ∀ ρ' : Env, i < ρ'.length → (j ≠ i → ρ'[i]? = ρ[i]?) → wbk ρ (.slot j :: ss) (c :: cs) = wbk ρ' ss cs → (j = i → (∃ d, c = .ow d ∧ ρ'[i]? = some (.ow d)) ∨ ((∀ d, c ≠ .ow d) ∧ ρ'[i]? = ρ[i]?)) →
        (∃ (n : Nat) (d : D), (Src.slot j :: ss)[n]? = some (.slot i) ∧ (c :: cs)[n]? = some (.ow d) ∧ (wbk ρ (.slot j :: ss) (c :: cs))[i]? = some (.ow d)) ∨
        ((∀ n : Nat, (Src.slot j :: ss)[n]? = some (.slot i) → ∀ d, (c :: cs)[n]? ≠ some (.ow d)) ∧ (wbk ρ (.slot j :: ss) (c :: cs))[i]? = ρ[i]?) := by
      intro ρ' hl ho e hc
      rw [e]
      rcases wbk_get (ss := ss) (cs := cs) (ρ := ρ') (i := i) h'.2 hl with ⟨n, d, h1, h2, h3⟩ | ⟨h1, h2⟩
      · exact .inl ⟨n + 1, d, by simpa using h1, by simpa using h2, h3⟩
      · by_cases hj : j = i
        · subst hj
          rcases hc rfl with ⟨d, rfl, hd⟩ | ⟨nd, hd⟩
          · exact .inl ⟨0, d, rfl, rfl, by rw [h2, hd]⟩
          · refine .inr ⟨fun n hn d z => ?_, by rw [h2, hd]⟩
            cases n with
            | zero => simp at z; exact nd d z
            | succ n => exact h1 n (by simpa using hn) d (by simpa using z)
        · refine .inr ⟨fun n hn d z => ?_, by rw [h2, ho hj]⟩
          cases n with
          | zero => simp at hn; exact hj hn
          | succ n => exact h1 n (by simpa using hn) d (by simpa using z)
    cases c with
    | ow d =>
      refine shift (List.set ρ j (Cell.ow d)) (by rw [List.length_set]; exact hi) (fun ne => List.getElem?_set_ne ne) rfl fun e => .inl ⟨d, rfl, ?_⟩
      subst e
      rw [List.getElem?_set_self hi]
    | fz d => exact shift ρ hi (fun _ => rfl) rfl fun _ => .inr ⟨fun d z => (nomatch z), rfl⟩
    | un => exact shift ρ hi (fun _ => rfl) rfl fun _ => .inr ⟨fun d z => (nomatch z), rfl⟩
theorem wbk_len : ∀ (ρ : Env) (ss : List Src) (cs : List Cell), (wbk ρ ss cs).length = ρ.length
  | ρ, [], cs => by cases cs <;> rfl
  | ρ, s :: ss, [] => by cases s <;> rfl
  | ρ, .val d0 :: ss, c :: cs => wbk_len ρ ss cs
  | ρ, .slot j :: ss, .ow d :: cs => by
    show (wbk (List.set ρ j (Cell.ow d)) ss cs).length = _
    rw [wbk_len, List.length_set]
  | ρ, .slot j :: ss, .fz d :: cs => wbk_len ρ ss cs
  | ρ, .slot j :: ss, .un :: cs => wbk_len ρ ss cs
section
variable {G : Gx} {X : Cx} {W : WX} {M : List Addr} {ρ ρ1 : Env} {σ : L2.St} {H H1 : Hp}
theorem rss_get {vs : List V} {ss : List Src} (h : RSs G M ρ σ H vs ss) {n : Nat} {s : Src} (hs : ss[n]? = some s) : ∃ v, vs[n]? = some v ∧ RS G M ρ σ H v s := by
  induction h generalizing n with
  | nil => simp at hs
  | cons a t ih =>
    cases n with
    | zero => simp at hs; subst hs; exact ⟨_, rfl, a⟩
    | succ n => obtain ⟨v, h1, h2⟩ := ih (n := n) (by simpa using hs); exact ⟨v, by simpa using h1, h2⟩
theorem rss_len {vs : List V} {ss : List Src} (h : RSs G M ρ σ H vs ss) : vs.length = ss.length := by
  induction h with
  | nil => rfl
  | cons a t ih => simp [ih]
/-- what a call is handed -/
theorem rep_args (r : Rep G M ρ σ H) {vs : List V} {ss : List Src} (h : RSs G M ρ σ H vs ss) (nd : (slots ss).Nodup) : Rep G M (ss.map (cellOf ρ)) (vs.map some) H ∧ NoUn (ss.map (cellOf ρ)) := by
  have ow : ∀ {n : Nat} {d : D}, (ss.map (cellOf ρ))[n]? = some (.ow d) → ∃ i, ss[n]? = some (.slot i) ∧ ρ[i]? = some (.ow d) := fun {n d} h => by
    rw [List.getElem?_map] at h
    obtain ⟨s, hs, e⟩ := Option.map_eq_some_iff.mp h
    cases s with
    | val d0 => cases e
    | slot i =>
      refine ⟨i, hs, ?_⟩
      unfold cellOf at e
      simp only at e
      split at e
      · rename_i d1 hd; cases e; exact hd
      · cases e
  refine ⟨⟨by rw [List.length_map, List.length_map, rss_len h], fun n d hn => ?_, fun n d hn => ?_, fun n m a d d' h1 h2 h3 h4 => ?_, r.trk, r.tab, r.tm⟩, fun c hc => ?_⟩
  · rw [List.getElem?_map] at hn
    obtain ⟨s, hs, e⟩ := Option.map_eq_some_iff.mp hn
    cases s with
    | val d0 =>
      cases e
      obtain ⟨v, h1, h2⟩ := rss_get h hs
      exact ⟨v, by rw [List.getElem?_map, h1]; rfl, h2⟩
    | slot i =>
      unfold cellOf at e
      simp only at e
      split at e <;> cases e
  · obtain ⟨i, hs, hd⟩ := ow hn
    obtain ⟨v, h1, h2, _⟩ := rss_get h hs
    obtain ⟨a, e1, e2, e3⟩ := r.ow i d hd
    rw [h2] at e1
    cases e1
    exact ⟨a, by rw [List.getElem?_map, h1]; rfl, e2, e3⟩
  · obtain ⟨i, hs, hd⟩ := ow h1
    obtain ⟨j, hs2, hd2⟩ := ow h2
    obtain ⟨v, q1, q2, _⟩ := rss_get h hs
    obtain ⟨u, q3, q4, _⟩ := rss_get h hs2
    rw [List.getElem?_map, q1] at h3
    rw [List.getElem?_map, q3] at h4
    cases h3
    cases h4
    have hij : i = j := r.inj i j a d d' hd hd2 q2 q4
    subst hij
    -- two places of one slot
    clear h1 h2 q1 q3 q2 q4 hd hd2 ow h
    induction ss generalizing n m with
    | nil => simp at hs
    | cons s ss ih =>
      cases s with
      | val d0 =>
        cases n with
        | zero => simp at hs
        | succ n =>
          cases m with
          | zero => simp at hs2
          | succ m => rw [ih (show (slots ss).Nodup from nd) n m (by simpa using hs) (by simpa using hs2)]
      | slot k =>
        obtain ⟨n1, n2⟩ := List.nodup_cons.mp (show (k :: slots ss).Nodup from nd)
        cases n with
        | zero =>
          cases m with
          | zero => rfl
          | succ m =>
            simp at hs hs2
            subst hs
            exact (n1 (mem_slots.mpr (List.mem_of_getElem? hs2))).elim
        | succ n =>
          cases m with
          | zero =>
            simp at hs hs2
            subst hs2
            exact (n1 (mem_slots.mpr (List.mem_of_getElem? hs))).elim
          | succ m => rw [ih n2 n m (by simpa using hs) (by simpa using hs2)]
  · obtain ⟨s, hs, e⟩ := List.mem_map.mp hc
    obtain ⟨n, hn⟩ := List.getElem?_of_mem hs
    intro z
    subst z
    cases s with
    | val d0 => cases e
    | slot i =>
      obtain ⟨v, _, _, d, hd⟩ := rss_get h hn
      unfold cellOf at e
      simp only [hd] at e
      cases e
/-- behind a call -/
theorem go_call (r : Rep G M ρ σ H) {vs : List V} {ss : List Src} (h : RSs G M ρ σ H vs ss) (nd : (slots ss).Nodup) {cs : List Cell} {H' : Hp} {M1 : List Addr} (g : Go G M (vs.map some) (ss.map (cellOf ρ)) H cs H') (rp : Rep G M1 cs (vs.map some) H') (s1 : ∀ b ∈ M, b ∈ M1) (fz1 : Ex (Fz M H) (Fz M1 H')) :
    Rep G M1 (wbk ρ ss cs) σ H' ∧ Kin ρ (wbk ρ ss cs) ∧ Keep (Seen ρ σ) H H' := by
  have lt : ∀ {i : Nat} {c : Cell}, (wbk ρ ss cs)[i]? = some c → i < ρ.length := fun {i c} h => by
    rw [← wbk_len ρ ss cs]; exact (List.getElem?_eq_some_iff.mp h).1
  have args := rep_args r h nd
  -- a slot that is lent is owned
  have lent : ∀ {n i : Nat}, ss[n]? = some (.slot i) → ∃ v d, vs[n]? = some v ∧ σ[i]? = some (some v) ∧ ρ[i]? = some (.ow d) ∧ (ss.map (cellOf ρ))[n]? = some (.ow d) := fun {n i} hs => by
    obtain ⟨v, h1, h2, d, hd⟩ := rss_get h hs
    refine ⟨v, d, h1, h2, hd, ?_⟩
    rw [List.getElem?_map, hs]
    show some (cellOf ρ (.slot i)) = _
    unfold cellOf
    simp only [hd]
  have back : ∀ {n i : Nat}, ss[n]? = some (.slot i) → ∃ d, cs[n]? = some (.ow d) := fun {n i} hs => by
    obtain ⟨v, d, _, _, _, e⟩ := lent hs
    exact (g.kin.ow n).mpr ⟨d, e⟩
  have kp : Keep (Seen ρ σ) H H' := fun b o e n t => g.kp b o e (fun ⟨m, d, e1, e2⟩ => by
    rw [List.getElem?_map] at e1
    obtain ⟨s, hs, ec⟩ := Option.map_eq_some_iff.mp e1
    cases s with
    | val d0 => cases ec
    | slot i =>
      obtain ⟨v, d', h1, h2, h3, _⟩ := lent hs
      rw [List.getElem?_map, h1] at e2
      cases e2
      exact n ⟨i, d', h3, h2⟩) t
  refine ⟨⟨by rw [wbk_len]; exact r.len, fun i d hi => ?_, fun i d hi => ?_, fun i j a d d' h1 h2 h3 h4 => ?_, rp.trk, rp.tab, fun p hp => s1 _ (r.tm p hp)⟩, fun i => ?_, kp⟩
  · rcases wbk_get (ss := ss) (cs := cs) nd (lt hi) with ⟨n, d1, e1, e2, e3⟩ | ⟨_, e⟩
    · rw [hi] at e3; cases e3
    · rw [hi] at e
      obtain ⟨v, h1, h2⟩ := r.fz i d e.symm
      exact ⟨v, h1, h2.ex fz1⟩
  · rcases wbk_get (ss := ss) (cs := cs) nd (lt hi) with ⟨n, d1, e1, e2, e3⟩ | ⟨no, e⟩
    · rw [hi] at e3
      cases e3
      obtain ⟨a, q1, q2, q3⟩ := rp.ow n d e2
      obtain ⟨v, d0, h1, h2, h3, h4⟩ := lent e1
      rw [List.getElem?_map, h1] at q1
      cases q1
      exact ⟨a, h2, q2, q3⟩
    · rw [hi] at e
      obtain ⟨a, h1, h2, h3⟩ := r.ow i d e.symm
      -- it was not lent
      have nl : ∀ n : Nat, ss[n]? ≠ some (.slot i) := fun n hn => by
        obtain ⟨d', hd'⟩ := back hn
        exact no n hn d' hd'
      have same : H' a = H a := by
        obtain ⟨o, ho, nt, _⟩ := h3.pl
        rw [ho]
        refine g.kp a o ho (fun ⟨m, d', e1, e2⟩ => ?_) nt
        rw [List.getElem?_map] at e1
        obtain ⟨s, hs, ec⟩ := Option.map_eq_some_iff.mp e1
        cases s with
        | val d0 => cases ec
        | slot j =>
          obtain ⟨v, d2, q1, q2, q3, _⟩ := lent hs
          rw [List.getElem?_map, q1] at e2
          cases e2
          have : i = j := r.inj i j a d d2 e.symm q3 h1 q2
          exact nl m (by rw [this]; exact hs)
      refine ⟨a, h1, s1 a h2, ?_⟩
      cases d <;> first | exact h3.elim | skip
      · obtain ⟨xs, h1, h2⟩ := h3; exact ⟨xs, by rw [same]; exact h1, h2.ex fz1⟩
      · obtain ⟨kvs, h1, h2, h3⟩ := h3; exact ⟨kvs, by rw [same]; exact h1, h2.ex fz1, h3.ex fz1⟩
      · obtain ⟨dx, fs, h1, h2, h3⟩ := h3; exact ⟨dx, fs, by rw [same]; exact h1, h2, h3.ex fz1⟩
  · have o1 : ∃ d0, ρ[i]? = some (.ow d0) := by
      rcases wbk_get (ss := ss) (cs := cs) nd (lt h1) with ⟨n, d1, e1, e2, e3⟩ | ⟨_, e⟩
      · obtain ⟨v, d0, _, _, q, _⟩ := lent e1; exact ⟨d0, q⟩
      · exact ⟨d, by rw [← e]; exact h1⟩
    have o2 : ∃ d0, ρ[j]? = some (.ow d0) := by
      rcases wbk_get (ss := ss) (cs := cs) nd (lt h2) with ⟨n, d1, e1, e2, e3⟩ | ⟨_, e⟩
      · obtain ⟨v, d0, _, _, q, _⟩ := lent e1; exact ⟨d0, q⟩
      · exact ⟨d', by rw [← e]; exact h2⟩
    obtain ⟨d1, q1⟩ := o1
    obtain ⟨d2, q2⟩ := o2
    exact r.inj i j a d1 d2 q1 q2 h3 h4
  · by_cases hi : i < ρ.length
    · rcases wbk_get (ss := ss) (cs := cs) nd hi with ⟨n, d1, e1, e2, e3⟩ | ⟨_, e⟩
      · obtain ⟨v, d0, _, _, q, _⟩ := lent e1
        exact .inr ⟨d0, d1, q, e3⟩
      · exact .inl e
    · left
      rw [List.getElem?_eq_none (by rw [wbk_len]; omega), List.getElem?_eq_none (by omega)]
def wCallP (psp : PSp) (wa : WA) : WE := fun ρ q e => wa ρ (fun ss ρ1 => (slots ss).Nodup ∧ psp (ss.map (cellOf ρ1)) (fun d cs => q (.val d) (wbk ρ1 ss cs)) fun C ns vs cs => e C ns vs (wbk ρ1 ss cs)) e
def nCallP (psp : PSp) (wa : WA) : WN := fun ρ q e => wa ρ (fun ss ρ1 => (slots ss).Nodup ∧ psp (ss.map (cellOf ρ1)) (fun d cs => q d (wbk ρ1 ss cs)) fun C ns vs cs => e C ns vs (wbk ρ1 ss cs)) e
section
variable {n : Nat} {psp : PSp} {ta : TA} {wa : WA} {E : L2.St → XK}
/-- a call as the hand layer reads it, its errors wished for at the caller's slots -/
abbrev tCallS (sp : Sp) (E : L2.St → XK) (t : TA) : TE := fun σ H Q => t σ H fun vs H1 => sp vs H1 Q (E σ)
theorem exc_call {C : Str} {ns : List Str} {xs : List D} {dx : Option Addr} {H' : Hp} (hE : ∀ σ c d H, E σ c d H = W c d σ H) {eq : EQ} (rp : Rep G M ρ σ H) (g1 : Go G M σ ρ H ρ1 H1) {vs : List V} {ss : List Src} (r1 : RSs G M ρ1 σ H1 vs ss) (nd : (slots ss).Nodup) {cs : List Cell}
    (g : Go G M (vs.map some) (ss.map (cellOf ρ1)) H1 cs H') (th : Thr G M W σ ρ H eq) (hx : XdAt G M H' dx ns xs) (z : eq C ns xs (wbk ρ1 ss cs)) : E σ (.ref (G.cl C)) dx H' := by
  obtain ⟨a, b, c⟩ := go_call g1.rep r1 nd g g.rep (fun _ h => h) (g.fz (rep_args g1.rep r1 nd).1)
  rw [hE]
  exact th C ns xs _ dx H' (g1.trans ⟨a, b, c⟩) hx z
theorem se_callP (ha : SA G W ta wa) (hE : ∀ σ c d H, E σ c d H = W c d σ H) (hn : ∀ cells q eq, psp cells q eq → cells.length = n) : SE G W (tCallS (spP G n false psp) E ta) (wCallP psp wa) := by
  intro M ρ σ H q eq Q rp w k th
  refine ha M ρ σ H _ eq _ rp w (fun ss ρ1 vs H1 g1 r1 ⟨nd, w1⟩ => ?_) th
  obtain ⟨ra, nu⟩ := rep_args g1.rep r1 nd
  have hlen : vs.length = n := by rw [rss_len r1, ← hn _ _ _ w1, List.length_map]
  refine ⟨hlen, M, _, _, _, nu, ra, w1, fun d cs v H' g rd qq => ?_, fun C ns xs cs dx H' g hx z => exc_call hE rp g1 r1 nd g th hx z⟩
  obtain ⟨a, b, c⟩ := go_call g1.rep r1 nd g g.rep (fun _ h => h) (g.fz ra)
  exact k (.val d) _ v H' (g1.trans ⟨a, b, c⟩) rd qq
theorem sn_callP (ha : SA G W ta wa) (hE : ∀ σ c d H, E σ c d H = W c d σ H) (hn : ∀ cells q eq, psp cells q eq → cells.length = n) : SN G W (tCallS (spP G n true psp) E ta) (nCallP psp wa) := by
  intro M ρ σ H q eq Q rp w k th
  refine ha M ρ σ H _ eq _ rp w (fun ss ρ1 vs H1 g1 r1 ⟨nd, w1⟩ => ?_) th
  obtain ⟨ra, nu⟩ := rep_args g1.rep r1 nd
  have hlen : vs.length = n := by rw [rss_len r1, ← hn _ _ _ w1, List.length_map]
  refine ⟨hlen, M, _, _, _, nu, ra, w1, fun d cs v H' g rd qq => ?_, fun C ns xs cs dx H' g hx z => exc_call hE rp g1 r1 nd g th hx z⟩
  obtain ⟨a, b, c⟩ := go_call g1.rep r1 nd g g.rep (fun _ h => h) (g.fz ra)
  obtain ⟨p, rfl, np, h0, rn, ow⟩ := rd
  obtain ⟨a2, _, _⟩ := go_call g1.rep r1 nd g rn (fun _ h => List.mem_cons_of_mem _ h) fun b o h => by
    obtain ⟨nb, e, t⟩ := fz_of3 (g.fz ra b o h)
    refine fz_in (fun z => ?_) e t
    rcases List.mem_cons.mp z with z | z
    · have := (fz_of h).2; rw [z] at this; exact (h0 o this t).elim
    · exact nb z
  exact k d _ p H' (g1.trans ⟨a, b, c⟩) np (g1.isNew h0 rp) a2 ow qq
end
end
/-! ### the rules of a call -/
section
variable {X : Cx} {CXc : CXT} {k : Nat} {f : Addr} {fd : FuncData} {ps : List Str} {sp : Sp} {E : L2.St → XK} {x : Str} {p pos : Pos} {e : Expr} {es : List Expr} {t : TA}
theorem run_fnGS {pins : List (Addr × Obj)} {σ : L2.St} {H : Hp} {s : Shared} {Q : VK} {us : List Value} {vs : List V} (F : FnG X.prog X.w X.K X.mg X.base CXc k f fd ps sp) (hga : X.A.guards = some []) (hr : Room k X.A) (hb : Binds X.K fd ps []) (hx : PassesAt CXc X σ (E σ))
    (I : Inv X pins σ H s) (r : Vals vs us) (h : sp vs H Q (E σ)) : wpAny (model X.prog X.w) X.A (call (.ref f) us) (EP X pins σ Q) X.xe s := by
  have hl : (us ++ []).length = ps.length := by rw [List.append_nil, ← r.length]; exact F.len _ _ _ _ h
  have hb' := hb s us I.kIn hl
  rw [List.append_nil] at hb'
  refine wpAny_call (codeAny_mono (F.run X.A X.stack s H ⟨us, []⟩ us vs Q (E σ) hga hr I.env0 hb' r h) fun r s' hq => ?_)
  match r, hq with
  | .error e, hq => exact hx pins H s e s' I hq
  | .ok (.ret u), hq => exact I.after hq
theorem pe_callGS (F : FnG X.prog X.w X.K X.mg X.base CXc k f fd ps sp) (hga : X.A.guards = some []) (hr : Room k X.A) (hg : Gl X x) (hm : X.mg x = some (.ref f)) (hk : PySem.W.keepIn X.K (.ref f) = true) (hb : Binds X.K fd ps []) (hx : ∀ σ, PassesAt CXc X σ (E σ))
    (ha : PA X (e :: es) t) (hdb : (x == ("__debug__" : Str)) = false := by decide) (he : starEach (e :: es) X.env = (false, eval e X.env) :: starEach es X.env := by rfl) (hpl : (backTo pos (starEach es X.env)).any (·.1) = false := by rfl) :
    PE X (.Call (.Name x p) (e :: es) [] pos) (tCallS sp E t) := by
  constructor
  intro pins s σ H Q I h
  refine wpAny_Call_Name_kw (ld_glob I hg hm (PySem.W.callWith_K (h₀ := X.base) I.ok.mod.kin hk (thn (ha.run pos pins s σ H _ I h) ?_) he hpl) hdb)
  rintro us s1 ⟨vs, H1, I1, r, q⟩
  exact ⟨I1.kIn, run_fnGS F hga hr hb (hx σ) I1 r q⟩
theorem pe_callGS0 (F : FnG X.prog X.w X.K X.mg X.base CXc k f fd ps sp) (hga : X.A.guards = some []) (hr : Room k X.A) (hg : Gl X x) (hm : X.mg x = some (.ref f)) (hk : PySem.W.keepIn X.K (.ref f) = true) (hb : Binds X.K fd ps []) (hx : ∀ σ, PassesAt CXc X σ (E σ))
    (hdb : (x == ("__debug__" : Str)) = false := by decide) : PE X (.Call (.Name x p) [] [] pos) (tCallS sp E tNil) := by
  constructor
  intro pins s σ H Q I h
  exact wpAny_Call_Name_kw (ld_glob I hg hm (PySem.W.callWith_K0 I.kIn hk (run_fnGS (us := []) F hga hr hb (hx σ) I .nil h)) hdb)
end
section
variable {G : Gx} {X : Cx} {W : WX} {k n : Nat} {f : Addr} {fd : FuncData} {ps : List Str} {psp : PSp} {x : Str} {p pos : Pos} {e : Expr} {es : List Expr} {wa : WA}
/-- a def's promise, as the rules of calls take it -/
structure PFn (G : Gx) (P : Program) (wd : World) (mg : Str → Option Value) (base : Heap) (CXc : CXT) (k : Nat) (x : Str) (n : Nat) (new : Bool) (psp : PSp) : Prop where
  ex : ∃ (f : Addr) (fd : FuncData) (ps : List Str), FnG P wd G.K mg base CXc k f fd ps (spP G n new psp) ∧ mg x = some (.ref f) ∧ PySem.W.keepIn G.K (.ref f) = true ∧ Binds G.K fd ps []
  len : ∀ cells q eq, psp cells q eq → cells.length = n
theorem pass00 {X : Cx} {σ : L2.St} {E : XK} : PassesAt CX0 X σ E := fun _ _ _ _ _ _ h => h.elim
theorem px_callP (F : PFn G X.prog X.w X.mg X.base CX0 k x n false psp) (hga : X.A.guards = some []) (hr : Room k X.A) (hg : Gl X x) (ha : PXA G X W (e :: es) wa) (hK : X.K = G.K := by rfl) (hdb : (x == ("__debug__" : Str)) = false := by decide)
    (he : starEach (e :: es) X.env = (false, eval e X.env) :: starEach es X.env := by rfl) (hpl : (backTo pos (starEach es X.env)).any (·.1) = false := by rfl) : PX G X W (.Call (.Name x p) (e :: es) [] pos) (wCallP psp wa) := by
  obtain ⟨⟨f, fd, ps, F1, hm, hk, hb⟩, hn⟩ := F
  obtain ⟨ta, pa, sa⟩ := ha
  rw [← hK] at F1 hk hb
  exact ⟨_, pe_callGS (E := fun σ c d H => W c d σ H) F1 hga hr hg hm hk hb (fun _ => pass00) pa hdb he hpl, se_callP sa (fun _ _ _ _ => rfl) hn⟩
theorem px_callP0 (F : PFn G X.prog X.w X.mg X.base CX0 k x n false psp) (hga : X.A.guards = some []) (hr : Room k X.A) (hg : Gl X x) (hK : X.K = G.K := by rfl) (hdb : (x == ("__debug__" : Str)) = false := by decide) : PX G X W (.Call (.Name x p) [] [] pos) (wCallP psp wNil) := by
  obtain ⟨⟨f, fd, ps, F1, hm, hk, hb⟩, hn⟩ := F
  rw [← hK] at F1 hk hb
  exact ⟨_, pe_callGS0 (E := fun σ c d H => W c d σ H) F1 hga hr hg hm hk hb (fun _ => pass00) hdb, se_callP (ta := tNil) (fun M ρ σ H q eq Q rp w k _ => k [] ρ [] H (.refl rp) .nil w) (fun _ _ _ _ => rfl) hn⟩
theorem px_callX (F : PFn G X.prog X.w X.mg X.base (L2.CX X.prog X.w) k x n false psp) (tk : Takes X W) (hga : X.A.guards = some []) (hr : Room k X.A) (hg : Gl X x) (ha : PXA G X W (e :: es) wa) (hK : X.K = G.K := by rfl) (hdb : (x == ("__debug__" : Str)) = false := by decide)
    (he : starEach (e :: es) X.env = (false, eval e X.env) :: starEach es X.env := by rfl) (hpl : (backTo pos (starEach es X.env)).any (·.1) = false := by rfl) : PX G X W (.Call (.Name x p) (e :: es) [] pos) (wCallP psp wa) := by
  obtain ⟨⟨f, fd, ps, F1, hm, hk, hb⟩, hn⟩ := F
  obtain ⟨ta, pa, sa⟩ := ha
  rw [← hK] at F1 hk hb
  exact ⟨_, pe_callGS (E := fun σ c d H => W c d σ H) F1 hga hr hg hm hk hb (fun σ => passAt tk σ) pa hdb he hpl, se_callP sa (fun _ _ _ _ => rfl) hn⟩
theorem px_callX0 (F : PFn G X.prog X.w X.mg X.base (L2.CX X.prog X.w) k x n false psp) (tk : Takes X W) (hga : X.A.guards = some []) (hr : Room k X.A) (hg : Gl X x) (hK : X.K = G.K := by rfl) (hdb : (x == ("__debug__" : Str)) = false := by decide) : PX G X W (.Call (.Name x p) [] [] pos) (wCallP psp wNil) := by
  obtain ⟨⟨f, fd, ps, F1, hm, hk, hb⟩, hn⟩ := F
  rw [← hK] at F1 hk hb
  exact ⟨_, pe_callGS0 (E := fun σ c d H => W c d σ H) F1 hga hr hg hm hk hb (fun σ => passAt tk σ) hdb, se_callP (ta := tNil) (fun M ρ σ H q eq Q rp w k _ => k [] ρ [] H (.refl rp) .nil w) (fun _ _ _ _ => rfl) hn⟩
theorem pxn_callP (F : PFn G X.prog X.w X.mg X.base CX0 k x n true psp) (hga : X.A.guards = some []) (hr : Room k X.A) (hg : Gl X x) (ha : PXA G X W (e :: es) wa) (hK : X.K = G.K := by rfl) (hdb : (x == ("__debug__" : Str)) = false := by decide)
    (he : starEach (e :: es) X.env = (false, eval e X.env) :: starEach es X.env := by rfl) (hpl : (backTo pos (starEach es X.env)).any (·.1) = false := by rfl) : PXN G X W (.Call (.Name x p) (e :: es) [] pos) (nCallP psp wa) := by
  obtain ⟨⟨f, fd, ps, F1, hm, hk, hb⟩, hn⟩ := F
  obtain ⟨ta, pa, sa⟩ := ha
  rw [← hK] at F1 hk hb
  exact ⟨_, pe_callGS (E := fun σ c d H => W c d σ H) F1 hga hr hg hm hk hb (fun _ => pass00) pa hdb he hpl, sn_callP sa (fun _ _ _ _ => rfl) hn⟩
end
end Pu
/-! ### the pure layer: exceptions -/
namespace Pu
open PySem PySem.Spec PyProof.Rows L2 Lk Evl StX
section
variable {G : Gx} {X : Cx} {W : WX} {M : List Addr} {ρ ρ1 : Env} {σ : L2.St} {H H1 : Hp} {e : Expr} {es : List Expr} {pos p : Pos} {wa wr : WA} {we : WE}
/-! ### raise -/
def wRaise (C : Str) : WS := fun P ρ => P.ex C [] [] ρ
theorem py_raise {x m : Str} {j : Nat} {p p2 pos1 : Pos} (C : Str) (hc : X.calm = true) (tk : Takes X W) (q : PySem.W.excIn X.K (G.cl C) [.type "ValueError", .type "Exception", .type "BaseException", .type "object"] "ValueError.__new__" = true) (gC : X.mg x = some (.ref (G.cl C)))
    (kC : PySem.W.keepIn X.K (.ref (G.cl C)) = true) (r : Raises X (.ref (G.cl C))) (hg : Gl X x) (hdb : (x == ("__debug__" : Str)) = false := by decide) : PY G X W (.Raise (some (.Call (.Name x p) [.Constant (.str m) j p2] [] pos1)) none pos) (wRaise C) :=
  ⟨_, ps_raise hc tk (pmk_own PySem.F.excBase_ValueError q gC kC r hg hdb), fun c M ρ σ H Z P rs w k => k.ex C [] [] M ρ σ none H rs ⟨rfl, rfl⟩ w⟩
/-- an __init__ that keeps its one argument -/
def spInit1 (C : Addr) (f : Str) : Sp := fun vs H Q _ => ∃ (a : Addr) (y : V), vs = [.ref a, y] ∧ H a = some (exo a C none) ∧ ∀ dx, H dx = none → dx ≠ a → Q .non (upd (upd H dx (exd dx [(f, y)])) a (exo a C (some dx)))
def wRaise1 (C f : Str) (we : WE) : WS := fun P ρ => we ρ (fun s ρ1 => s.val' fun d => P.ex C [f] [d] ρ1) P.ex
theorem py_raise1 {x : Str} {p pos1 : Pos} {fI : Addr} {k : Nat} {fd : FuncData} {ps : List Str} (C f : Str) (hc : X.calm = true) (tk : Takes X W) (T : OexC X.K (G.cl C)) (iC : PySem.W.findIn X.K (.ref (G.cl C)) "__init__" = some (some (.ref fI))) (tI : PySem.W.typeIn X.K (.ref fI) = some (.type "function"))
    (F1 : FnOk X.prog X.w X.K X.mg X.base CX0 k fI fd ps (spInit1 (G.cl C) f)) (hr : Room (k + 1) X.A) (hb : Binds X.K fd ps []) (hg : Gl X x) (hm : X.mg x = some (.ref (G.cl C))) (he : PX G X W e we)
    (hdb : (x == ("__debug__" : Str)) = false := by decide) (h4 : starEach [e] X.env = (false, eval e X.env) :: starEach [] X.env := by rfl) (hpl : (backTo pos1 (starEach [] X.env)).any (·.1) = false := by rfl) :
    PY G X W (.Raise (some (.Call (.Name x p) [e] [] pos1)) none pos) (wRaise1 C f we) := by
  obtain ⟨te, pe, se⟩ := he
  refine ⟨_, ps_raise hc tk (pmk_oex T iC tI F1 hr hb .nil pass0 hg hm (pa_cons pe pa_nil h4) hdb h4 hpl), fun c M ρ σ H Z P rs w k => ?_⟩
  refine se M ρ σ H _ _ _ rs.rep w (fun s ρ1 v H1 g r1 w1 => ?_) (k.thr rs)
  obtain ⟨d, rd, w2⟩ := r1.val' w1
  refine ⟨by show 1 ≤ 1000; decide, fun a ha => ⟨a, v, rfl, upd_same, fun dx h1 h2 => ⟨rfl, dx, [(f, v)], upd_same, ?_, ?_, ?_⟩⟩⟩
  · rw [upd_ne h2, upd_same]
  · rw [upd_ne h2] at h1; exact h1
  · rw [upd_ne h2] at h1
    have ex : Ex H1 (upd (del (upd (upd (upd H1 a (exo a (G.cl C) none)) dx (exd dx [(f, v)])) a (exo a (G.cl C) (some dx))) a) dx (.xd [(f, v)])) := fun b o e => by
      have nb : b ≠ a := ne_of_none e ha
      have nd : b ≠ dx := ne_of_none e h1
      rw [upd_ne nd, del_ne nb, upd_ne nb, upd_ne nd, upd_ne nb]; exact e
    refine k.ex C [f] [d] M ρ1 σ (some dx) _ ((rs.go g).go (Go.ex g.rep ex)) ⟨[(f, v)], fz_in (g.rep.new h1) upd_same, rfl, .cons (rd.ex (fz_step ex)) .nil⟩ w2
/-! ### try -/
def catchP (G : Gx) : List (Str × WS) → PEnds → EQ
  | [], P => P.ex
  | (D, w) :: r, P => fun C ns vs ρ => ∃ b, G.sub C D = some b ∧ (b = true → w { P with ex := eq0 } ρ) ∧ (b = false → catchP G r P C ns vs ρ)
def wTry (G : Gx) (wb : WS) (l : List (Str × WS)) : WS := fun P ρ => wb { P with ex := catchP G l P } ρ
/-- the except clauses -/
inductive Hds (G : Gx) (X : Cx) : List ExceptHandler → List (Str × WS) → Prop where
  | nil : Hds G X [] []
  | cons {x C : Str} {w : WS} {b₀ : Stmt} {suite : List Stmt} {np pos' : Pos} {hds : List ExceptHandler} {l : List (Str × WS)} (hc : Names X x (.ref (G.cl C)))
      (hs : ∀ (a : Addr) (oe : Obj) (cls : Value) (d : Option Addr) (pn : List (Addr × Obj)), Zc cls d oe → (∃ vs, oe.data = .fields vs) → PYs G (X.suite a ((a, oe) :: pn)) W0 (b₀ :: suite) w) (r : Hds G X hds l) :
      Hds G X (.ExceptHandler (some (.Name x np)) none (b₀ :: suite) pos' :: hds) ((C, w) :: l)
def hdl (G : Gx) (l : List (Str × WS)) : List (Value × (Addr → Value → Option Addr → TS)) := l.map fun p => (.ref (G.cl p.1), fun _ _ _ => tOfS G W0 p.2)
theorem Hds.ok {hds : List ExceptHandler} {l : List (Str × WS)} (h : Hds G X hds l) : HdsOk X hds (hdl G l) := by
  induction h with
  | nil => exact .nil
  | cons hc hs _ ih => exact .cons hc (fun a oe cls d pn h1 h2 => (hs a oe cls d pn h1 h2).can) ih
theorem EndsOk.noex {c : Cxt} {Z : Ends} {P : PEnds} (k : EndsOk G W c Z P) : EndsOk G W0 c Z { P with ex := eq0 } := ⟨k.pins, k.nx, k.rt, k.rn, k.bk, k.ct, fun _ _ _ _ _ _ _ _ _ _ z => z⟩
theorem catch_ok {c : Cxt} {Z : Ends} {P : PEnds} (hK : X.K = G.K) (k : EndsOk G W c Z P) {C : Str} {ns : List Str} {vs : List D} {dx : Option Addr} (rs : RepS G c M ρ σ H) (hx : XdAt G M H dx ns vs) :
    ∀ {l : List (Str × WS)}, catchP G l P C ns vs ρ → wMany X.K W Z (hdl G l) (.ref (G.cl C)) dx σ H
  | [], h => k.ex C ns vs M ρ σ dx H rs hx h
  | (D, w) :: r, h => by
    obtain ⟨b, h1, h2, h3⟩ := h
    refine ⟨b, by rw [hK]; exact G.hsub C D b h1, fun hb a ha => ⟨c, M, ρ, _, rs, h2 hb, k.noex⟩, fun hb => catch_ok hK k rs hx (h3 hb)⟩
theorem py_try {body : List Stmt} {wb : WS} {h0 : ExceptHandler} {hds : List ExceptHandler} {l : List (Str × WS)} (hs : X.stack = X.env :: X.outer) (hf : X.env.frame = some X.env.locals) (tk : Takes X W)
    (hb : ∀ (W' : WX) (pn : List (Addr × Obj)) (xe : Value → Shared → Prop), Takes (X.tr pn xe) W' → PassesOwn (model X.prog X.w) X.A X.env xe → PYs G (X.tr pn xe) W' body wb) (hh : Hds G X (h0 :: hds) l) (hK : X.K = G.K := by rfl) :
    PY G X W (.Try body (h0 :: hds) [] [] pos) (wTry G wb l) := by
  refine ⟨_, ps_try_many (tb := fun W' => tOfS G W' wb) hs hf tk (fun W' pn xe h1 h2 => (hb W' pn xe h1 h2).can) hh.ok, fun c M ρ σ H Z P rs w k => ?_⟩
  exact ⟨c, M, ρ, _, rs, w, k.pins, k.nx, k.rt, k.rn, k.bk, k.ct, fun C ns vs M' ρ' σ' dx H' rs' hx h => catch_ok hK k rs' hx h⟩
/-! ### try .. except C as n -/
theorem rep_unset {c : Cxt} (r : RepS G c M ρ σ H) {i : Nat} (hp : i ∉ c.pins) : RepS G c M (List.set ρ i Cell.un) (List.set σ i none) H := by
  have old : ∀ {j : Nat} {c : Cell}, (List.set ρ i Cell.un)[j]? = some c → c ≠ .un → j ≠ i ∧ ρ[j]? = some c := fun {j c} h n => by
    rw [List.getElem?_set] at h
    by_cases e : i = j
    · rw [if_pos e] at h
      split at h
      · cases h; exact absurd rfl n
      · cases h
    · rw [if_neg e] at h; exact ⟨Ne.symm e, h⟩
  have up : ∀ {j : Nat}, j ≠ i → (List.set σ i none)[j]? = σ[j]? := fun {j} h => List.getElem?_set_ne (Ne.symm h)
  refine ⟨⟨by rw [List.length_set, List.length_set, r.rep.len], fun j d h => ?_, fun j d h => ?_, fun j k a d d' h1 h2 h3 h4 => ?_, r.rep.trk, r.rep.tab, r.rep.tm⟩, r.sub, r.kp, fun a ⟨j, d, h1, h2⟩ => ?_, fun j hj => ?_, r.old, r.new, r.tT, r.fr⟩
  · obtain ⟨n, e⟩ := old h (by simp)
    rw [up n]; exact r.rep.fz j d e
  · obtain ⟨n, e⟩ := old h (by simp)
    rw [up n]; exact r.rep.ow j d e
  · obtain ⟨n1, e1⟩ := old h1 (by simp)
    obtain ⟨n2, e2⟩ := old h2 (by simp)
    rw [up n1] at h3
    rw [up n2] at h4
    exact r.rep.inj j k a d d' e1 e2 h3 h4
  · obtain ⟨n, e⟩ := old h1 (by simp)
    rw [up n] at h2
    exact r.own a ⟨j, d, e, h2⟩
  · have n : j ≠ i := fun z => hp (by rw [← z]; exact hj)
    obtain ⟨e1, d, e2⟩ := r.pin j hj
    refine ⟨by rw [up n]; exact e1, d, ?_⟩
    rw [List.getElem?_set_ne (Ne.symm n)]; exact e2
/-- the ends of a suite whose name is dropped behind it -/
def PEnds.drop (P : PEnds) (i : Nat) : PEnds := { P with ex := eq0, nx := fun ρ => P.nx (List.set ρ i Cell.un), bk := fun ρ => P.bk (List.set ρ i Cell.un), ct := fun ρ => P.ct (List.set ρ i Cell.un) }
def wTryAs (G : Gx) (wb : WS) (D : Str) (i : Nat) (ws : Addr → Value → Option Addr → WS) : WS := fun P ρ => i ∉ P.pins ∧ wb { P with ex := fun C ns vs ρ' => ∃ b, G.sub C D = some b ∧
  (b = true → ∀ a dx, ws a (.ref (G.cl C)) dx (P.drop i) (List.set ρ' i (Cell.fz (.exc a C dx ns vs)))) ∧ (b = false → P.ex C ns vs ρ') } ρ
theorem py_tryAs {body suite : List Stmt} {b₀ : Stmt} {x n D : Str} {np pos' : Pos} {wb : WS} (i : Nat) {ws : Addr → Value → Option Addr → WS} (hs : X.stack = X.env :: X.outer) (hf : X.env.frame = some X.env.locals) (hN : X.N.Nodup) (hi : X.N[i]? = some n) (hln : X.env.kindOf n = some .local) (hc : Names X x (.ref (G.cl D))) (tk : Takes X W)
    (hb : ∀ (W' : WX) (pn : List (Addr × Obj)) (xe : Value → Shared → Prop), Takes (X.tr pn xe) W' → PassesOwn (model X.prog X.w) X.A X.env xe → PYs G (X.tr pn xe) W' body wb)
    (hsu : ∀ (a : Addr) (oe : Obj) (cls : Value) (d : Option Addr) (pn : List (Addr × Obj)), Zc cls d oe → (∃ vs, oe.data = .fields vs) → PYs G (X.suite a ((a, oe) :: pn)) W0 (b₀ :: suite) (ws a cls d)) (hK : X.K = G.K := by rfl) :
    PY G X W (.Try body [.ExceptHandler (some (.Name x np)) (some n) (b₀ :: suite) pos'] [] [] pos) (wTryAs G wb D i ws) := by
  refine ⟨_, ps_try_as (tb := fun W' => tOfS G W' wb) (ts := fun a cls d => tOfS G W0 (ws a cls d)) hs hf hN hi hln hc tk (fun W' pn xe h1 h2 => (hb W' pn xe h1 h2).can) (fun a oe cls d pn h1 h2 => (hsu a oe cls d pn h1 h2).can), fun c M ρ σ H Z P rs w k => ?_⟩
  obtain ⟨hp, w⟩ := w
  have hp' : i ∉ c.pins := by rw [← k.pins]; exact hp
  refine ⟨c, M, ρ, _, rs, w, k.pins, k.nx, k.rt, k.rn, k.bk, k.ct, fun C ns vs M' ρ' σ' dx H' rs' hx h => ?_⟩
  obtain ⟨b, h1, h2, h3⟩ := h
  refine ⟨b, by rw [hK]; exact G.hsub C D b h1, fun hb a ha => ?_, fun hb => k.ex C ns vs M' ρ' σ' dx H' rs' hx (h3 hb)⟩
  have rd : R G (Fz M' H') (.ref a) (.exc a C dx ns vs) := by
    cases dx with
    | none => obtain ⟨rfl, rfl⟩ := hx; exact .exc0 a C
    | some d => obtain ⟨fs, e1, e2, e3⟩ := hx; exact .exc1 e1 e2 e3
  refine ⟨c, M', _, P.drop i, rs'.diff (is := [i]) (rep_set rs'.rep rd) (Ex.refl _) diff_set (by intro j hj; rw [List.mem_singleton.mp hj]; exact hp'), h2 hb a dx, k.pins, fun M2 ρ2 σ2 H2 r2 q => k.nx M2 _ _ H2 (rep_unset r2 hp') q, k.rt, k.rn, fun M2 ρ2 σ2 H2 r2 q => k.bk M2 _ _ H2 (rep_unset r2 hp') q,
    fun M2 ρ2 σ2 H2 r2 q => k.ct M2 _ _ H2 (rep_unset r2 hp') q, fun _ _ _ _ _ _ _ _ _ _ z => z⟩
/-- e.f of an error that is held -/
def lookD : List Str → List D → Str → Option D
  | n :: ns, d :: ds, f => if f = n then some d else lookD ns ds f
  | _, _, _ => none
theorem lookD_r {H : Hp} {f : Str} {d : D} : ∀ {fs : List (Str × V)} {ds : List D}, RAll G H (fs.map (·.2)) ds → lookD (fs.map (·.1)) ds f = some d → ∃ v, fs.lookup f = some v ∧ R G H v d
  | [], _, _, h => by simp [lookD] at h
  | (n, v) :: fs, ds, ra, h => by
    rw [List.map_cons] at ra
    cases ra with | cons a t =>
    rw [List.map_cons, lookD] at h
    rw [List.lookup_cons]
    by_cases e : f = n
    · rw [if_pos e] at h
      cases h
      rw [beq_iff_eq.mpr e]
      exact ⟨v, rfl, a⟩
    · rw [if_neg e] at h
      rw [beq_eq_false_iff_ne.mpr e]
      exact lookD_r t h
def wXf (a : Addr) (cls : Value) (dx : Option Addr) (C f : Str) (G : Gx) (i : Nat) : WE := fun ρ q _ => match ρ[i]? with
  | some (.fz (.exc a' C' dx' ns vs)) => a' = a ∧ cls = .ref (G.cl C) ∧ dx' = dx ∧ ∃ d, lookD ns vs f = some d ∧ q (.val d) ρ
  | _ => False
theorem px_xf {a : Addr} {oe : Obj} {cls : Value} {d : Option Addr} {pn : List (Addr × Obj)} {x C f : Str} {px : Pos} (i : Nat) (T : XfC X.K (G.cl C)) (hno : PySem.W.findIn X.K (.ref (G.cl C)) f = some none) (hz : Zc cls d oe) (hf : ∃ vs, oe.data = .fields vs)
    (hv : PE (X.suite a ((a, oe) :: pn)) (.Name x px) (tVar i)) (hb : attributeBase (.Name x px) f X.env (eval (.Name x px) X.env) = eval (.Name x px) X.env := by rfl) : PX G (X.suite a ((a, oe) :: pn)) W (.Attribute (.Name x px) f pos) (wXf a cls d C f G i) := by
  refine ⟨_, pe_xf T hno hz hf hv hb, fun M ρ σ H q eq Q rp w k _ => ?_⟩
  unfold wXf at w
  split at w
  · rename_i a' C' dx' ns vs hi
    obtain ⟨rfl, hc, rfl, dd, hd, w⟩ := w
    obtain ⟨v, h1, h2⟩ := rp.fz i _ hi
    cases h2 with
    | exc0 => simp [lookD] at hd
    | exc1 e1 e2 e3 =>
      subst e2
      obtain ⟨u, l1, l2⟩ := lookD_r e3 hd
      exact ⟨_, h1, rfl, hc, _, _, u, rfl, (fz_of e1).2, l1, k (.val dd) ρ u H (.refl rp) l2 w⟩
  · exact w.elim
/-! ### stars -/
def dSeq (d : D) (k : List D → Prop) : Prop := match d with
  | .lst ds => k ds
  | .tup ds => k ds
  | _ => False
def wStar (we : WE) (wr : WA) : WA := fun ρ q e => we ρ (fun s ρ1 => s.gets ρ1 fun d => dSeq d fun ds => wr ρ1 (fun ss ρ2 => q (ds.map Src.val ++ ss) ρ2) e) e
theorem rss_vals : ∀ {xs : List V} {ds : List D}, RAll G (Fz M H) xs ds → RSs G M ρ σ H xs (ds.map Src.val)
  | _, _, .nil => .nil
  | _, _, .cons a t => .cons a (rss_vals t)
theorem rss_app : ∀ {xs ys : List V} {ss ts : List Src}, RSs G M ρ σ H xs ss → RSs G M ρ σ H ys ts → RSs G M ρ σ H (xs ++ ys) (ss ++ ts)
  | _, _, _, _, .nil, h => h
  | _, _, _, _, .cons a t, h => .cons a (rss_app t h)
theorem pxa_star {pst : Pos} (he : PX G X W e we) (hr : PXA G X W es wr) (hs : starEach (.Starred e pst :: es) X.env = (true, eval e X.env) :: starEach es X.env := by rfl) (hK : X.K = G.K := by rfl) : PXA G X W (.Starred e pst :: es) (wStar we wr) := by
  obtain ⟨te, pe, se⟩ := he
  obtain ⟨tr, pr, sr⟩ := hr
  refine ⟨_, pa_starK (K := G.K) pe pr hs hK, fun M ρ σ H q eq Q rp w k th => se M ρ σ H _ eq _ rp w (fun s ρ1 v H1 g1 r1 w1 => ?_) th⟩
  obtain ⟨d, a1, w2⟩ := r1.arg g1.rep w1
  have fin : ∀ (xs : List V) (ds : List D), RAll G (Fz M H1) xs ds → wr ρ1 (fun ss ρ2 => q (ds.map Src.val ++ ss) ρ2) eq → tr σ H1 fun ys H2 => Q (xs ++ ys) H2 := fun xs ds ra w3 =>
    sr M ρ1 σ H1 _ eq _ g1.rep w3 (fun ss ρ2 vs H2 g2 r2 w4 => k _ ρ2 _ H2 (g1.trans g2) (rss_app (rss_vals (ra.ex (g2.fz g1.rep))) r2) w4) (th.go g1)
  unfold dSeq at w2
  split at w2
  · obtain ⟨p, xs, rfl, h1, h2⟩ := a1.lst
    exact ⟨p, xs, rfl, .inr (SqL.of h1), fin xs _ h2 w2⟩
  · obtain ⟨p, xs, rfl, h1, h2, _⟩ := a1.tup
    exact ⟨p, xs, rfl, .inl h1, fin xs _ h2 w2⟩
  · exact w2.elim
end
end Pu
/-! ### the pure layer: chains, pairs, dicts -/
namespace Pu
open PySem PySem.Spec PyProof.Rows L2 Lk Evl StX
section
variable {G : Gx} {X : Cx} {W : WX} {M M1 : List Addr} {ρ ρ1 : Env} {σ : L2.St} {H H1 : Hp} {e a b c : Expr} {es : List Expr} {pos p : Pos} {wa wb wc we : WE}
/-! ### a op b op' c -/
def wChain (o1 o2 : Op2) (wa wb wc : WE) : WE := fun ρ q e => wa ρ (fun s1 ρ1 => wb ρ1 (fun s2 ρ2 => s1.gets ρ2 fun d1 => s2.gets ρ2 fun d2 => o1 d1 d2 fun d => dB d fun k =>
  if k = true then wc ρ2 (fun s3 ρ3 => s2.gets ρ3 fun d2 => s3.gets ρ3 fun d3 => o2 d2 d3 fun d => q (.val d) ρ3) e else q (.val (.bl false)) ρ2) e) e
theorem se_chain {ta tb tc : TE} {r r' : R2} {o1 o2 : Op2} (h1 : OpS G o1 r) (h2 : OpS G o2 r') (ha : SE G W ta wa) (hb : SE G W tb wb) (hc : SE G W tc wc) : SE G W (tChain r r' ta tb tc) (wChain o1 o2 wa wb wc) := by
  intro M ρ σ H q eq Q rp w k th
  refine ha M ρ σ H _ eq _ rp w (fun s1 ρ1 x H1 g1 r1 w1 => ?_) th
  refine hb M ρ1 σ H1 _ eq _ g1.rep w1 (fun s2 ρ2 y H2 g2 r2 w2 => ?_) (th.go g1)
  obtain ⟨d1, a1, w3⟩ := (r1.go g1.rep g2).arg g2.rep w2
  obtain ⟨d2, a2, w4⟩ := r2.arg g2.rep w3
  refine h1 M H2 x y d1 d2 _ g2.rep.tr a1 a2 w4 _ fun d v H3 e3 rd kd => ?_
  unfold dB at kd
  split at kd
  · rename_i k'
    refine ⟨k', rd.bl_inv, ?_⟩
    have g3 := Go.ex g2.rep e3
    have g13 := (g1.trans g2).trans g3
    cases k' with
    | false => rw [if_neg Bool.false_ne_true] at kd ⊢; exact k (.val (.bl false)) ρ2 _ H3 g13 (R.bl false) kd
    | true =>
      rw [if_pos rfl] at kd ⊢
      refine hc M ρ2 σ H3 _ eq _ g3.rep kd (fun s3 ρ3 z H4 g4 r4 w5 => ?_) (th.go g13)
      obtain ⟨d2', b1, w6⟩ := (r2.go g2.rep (g3.trans g4)).arg g4.rep w5
      obtain ⟨d3, b2, w7⟩ := r4.arg g4.rep w6
      exact h2 M H4 y z d2' d3 _ g4.rep.tr b1 b2 w7 Q fun d v H' e rd kd => k (.val d) ρ3 v H' ((g13.trans g4).then_ex e) rd kd
  · exact kd.elim
theorem px_chain {op op' : CmpOp} {r r' : R2} {o1 o2 : Op2} (ho : OpR X (compareOp op) r) (h1 : OpS G o1 r) (ho' : OpR X (compareOp op') r') (h2 : OpS G o2 r') (ha : PX G X W a wa) (hb : PX G X W b wb) (hc : PX G X W c wc)
    (hm : lastMarks [op, op'] [b, c] = false := by with_unfolding_all rfl) : PX G X W (.Compare a [op, op'] [b, c] pos) (wChain o1 o2 wa wb wc) := by
  obtain ⟨ta, pa, sa⟩ := ha
  obtain ⟨tb, pb, sb⟩ := hb
  obtain ⟨tc, pc, sc⟩ := hc
  exact ⟨_, pe_chain ho ho' pa pb pc hm, se_chain h1 h2 sa sb sc⟩
theorem pxt_chain {op op' : CmpOp} {r r' : R2} {o1 o2 : Op2} (ho : OpR X (compareOp op) r) (h1 : OpS G o1 r) (ho' : OpR X (compareOp op') r') (h2 : OpS G o2 r') (ha : PX G X W a wa) (hb : PX G X W b wb) (hc : PX G X W c wc)
    (hm : lastMarks [op, op'] [b, c] = false := by with_unfolding_all rfl) : PXT G X W (.Compare a [op, op'] [b, c] pos) (wB (wChain o1 o2 wa wb wc)) := by
  obtain ⟨ta, pa, sa⟩ := ha
  obtain ⟨tb, pb, sb⟩ := hb
  obtain ⟨tc, pc, sc⟩ := hc
  exact ⟨_, pt_chain ho ho' pa pb pc hm, st_b (se_chain h1 h2 sa sb sc)⟩
/-! ### xs.pop(i) -/
def wPop (i : Nat) : WE := wLm0 i fun ds k => ∃ y, ds[ds.length - 1]? = some y ∧ k ds.dropLast y
def mPopAt : LM := fun ds y k => match y with
  | .int i => -(2 ^ 63) ≤ i ∧ i < 2 ^ 63 ∧ ∃ n z, seqIndex? i ds.length = some n ∧ ds[n]? = some z ∧ k (ds.eraseIdx n) z
  | _ => False
theorem RAll.erase : ∀ {H : Hp} {vs : List V} {ds : List D} (n : Nat), RAll G H vs ds → RAll G H (vs.eraseIdx n) (ds.eraseIdx n)
  | _, _, _, _, .nil => .nil
  | _, _, _, 0, .cons _ t => t
  | _, _, _, n + 1, .cons h t => .cons h (t.erase n)
theorem popAt_m : LmS G mPopAt rPopAt := by
  intro M H l xs ds v y k hx hr ry h Q q
  unfold mPopAt at h
  split at h
  · obtain ⟨h1, h2, n, z, h3, h4, h5⟩ := h
    obtain ⟨u, e1, e2⟩ := hr.get h4
    exact ⟨l, xs, _, n, u, rfl, by rw [ry.int_inv], hx, h1, h2, by rw [hr.len]; exact h3, e1, q _ _ _ _ (hr.erase n) e2 h5⟩
  · exact h.elim
theorem popAt_ok : MtR X "list.pop" rPopAt := mt_popAt
/-! ### enumerate(list), zip, reversed -/
def enumD (ds : List D) : List D := ds.mapIdx fun i d => .tup [.int (i : Nat), d]
def dRun (d : D) (k : List D → Prop) : Prop := match d with
  | .lst ds => k ds
  | .sl ds => k ds
  | _ => False
/-- a list that stands -/
def Std (G : Gx) (M1 : List Addr) (H1 : Hp) (a : Addr) (xs : List V) : Prop := ∀ M H, Ex (Fz M1 H1) (Fz M H) → SqL G.K H a xs
theorem run_of {v : V} {d : D} {k : List D → Prop} (r : R G (Fz M H) v d) (h : dRun d k) : ∃ a xs ds, v = .ref a ∧ Std G M H a xs ∧ RAll G (Fz M H) xs ds ∧ k ds := by
  unfold dRun at h
  split at h
  · obtain ⟨a, xs, rfl, h1, h2⟩ := r.lst_inv
    exact ⟨a, xs, _, rfl, fun M' H' e => SqL.of (fz_ex _ _ _ _ (e _ _ h1)), h2, h⟩
  · obtain ⟨a, xs, rfl, h1, h2⟩ := r.sl_inv
    exact ⟨a, xs, _, rfl, fun M' H' e => sqL_ex (fz_ex _ _) (sqL_ex e h1), h2, h⟩
  · exact h.elim
theorem r_pair {T : Addr} {x y : V} {d d' : D} (t : Trk M H) (hT : H T = none) (h1 : R G (Fz M H) x d) (h2 : R G (Fz M H) y d') : R G (Fz M (upd H T (.tup [x, y]))) (.ref T) (.tup [d, d']) :=
  r_new_tup t hT (.cons h1 (.cons h2 .nil))
theorem fd_enum {a : Addr} {xs : List V} {ds : List D} (hs : Std G M1 H1 a xs) (h : RAll G (Fz M1 H1) xs ds) : Fd G M1 H1 (Ite G.K a) (enumD ds) := by
  have hl : (enumD ds).length = ds.length := by unfold enumD; rw [List.length_mapIdx]
  refine ⟨fun i M H e hi => ?_, fun i M H x H' e t hi y => ?_, fun M H e => ⟨xs, hs M H e, by rw [h.len, hl]; exact Nat.le_refl _⟩⟩
  · rw [hl] at hi
    exact ⟨xs, xs[i]'(by rw [h.len]; exact hi), hs M H e, List.getElem?_eq_getElem _⟩
  · obtain ⟨T, x', rfl, hT, rfl, y⟩ := y
    obtain ⟨d, e1, e2⟩ := h.get' (y xs (hs M _ e))
    refine ⟨Ex.new hT, .tup [.int (i : Nat), d], ?_, r_pair t hT (R.int _) (e2.ex e)⟩
    unfold enumD
    rw [List.getElem?_mapIdx, e1]; rfl
def wEnum (we : WE) : WI := fun ρ q e => we ρ (fun s ρ1 => s.val' fun d => dRun d fun ds => q (enumD ds) ρ1) e
theorem sa_one {te : TE} (he : SE G W te we) : SA G W (fun σ H Q => te σ H fun v H1 => Q [v] H1) (fun ρ q e => we ρ (fun s ρ1 => q [s] ρ1) e) := fun M ρ σ H q eq Q rp w k th =>
  he M ρ σ H _ eq _ rp w (fun s ρ1 v H1 g r1 w1 => k [s] ρ1 [v] H1 g (.cons r1 .nil) w1) th
theorem pxi_enum {elts : List Expr} {kk : Nat} {tpos : Pos} (hg : Gl X "enumerate") (hm : X.mg "enumerate" = none) (he : PX G X W e we) (hs : starEach [e] X.env = [(false, eval e X.env)] := by rfl) (hK : X.K = G.K := by rfl) :
    PXI G X W (.Tuple elts kk tpos) (.Call (.Name "enumerate" p) [e] [] pos) (wEnum we) := by
  obtain ⟨te, pe, se⟩ := he
  refine ⟨_, pi_enum hg hm (pa_cons pe pa_nil hs) hs, fun M ρ σ H q eq R rp w k th => ?_⟩
  refine se M ρ σ H _ eq _ rp w (fun s ρ1 v H1 g rs q => ?_) th
  obtain ⟨d, rd, q⟩ := rs.val' q
  obtain ⟨a, xs, ds, rfl, h1, h2, q⟩ := run_of rd q
  rw [hK]
  exact ⟨a, xs, rfl, h1 M H1 (Ex.refl _), k _ ρ1 H1 _ g (fd_enum h1 h2) q⟩
/-- zip of two lists, of two tuples -/
def zipD (xs ys : List D) : List D := (xs.zip ys).map fun p => .tup [p.1, p.2]
theorem zipD_get {xs ys : List D} {i : Nat} {x y : D} (h1 : xs[i]? = some x) (h2 : ys[i]? = some y) : (zipD xs ys)[i]? = some (.tup [x, y]) := by
  unfold zipD
  rw [List.getElem?_map, show (xs.zip ys)[i]? = some (x, y) from List.getElem?_zip_eq_some.mpr ⟨h1, h2⟩]; rfl
theorem zipD_len {xs ys : List D} : (zipD xs ys).length = min xs.length ys.length := by unfold zipD; rw [List.length_map, List.length_zip]
def dZip (x y : D) (k : List D → Prop) : Prop := match x, y with
  | .lst a, .lst b => k (zipD a b)
  | .tup a, .tup b => k (zipD a b)
  | _, _ => False
def wZip (wa wb : WE) : WI := fun ρ q e => wa ρ (fun s1 ρ1 => wb ρ1 (fun s2 ρ2 => s1.val' fun d1 => s2.val' fun d2 => dZip d1 d2 fun ds => q ds ρ2) e) e
theorem pxi_zip {elts : List Expr} {kk : Nat} {tpos : Pos} (hg : Gl X "zip") (hm : X.mg "zip" = none) (ha : PX G X W a wa) (hb : PX G X W b wb)
    (hs : starEach [a, b] X.env = (false, eval a X.env) :: starEach [b] X.env := by rfl) (hs2 : starEach [b] X.env = (false, eval b X.env) :: starEach [] X.env := by rfl) (hpl : (backTo pos (starEach [b] X.env)).any (·.1) = false := by rfl) (hK : X.K = G.K := by rfl) :
    PXI G X W (.Tuple elts kk tpos) (.Call (.Name "zip" p) [a, b] [] pos) (wZip wa wb) := by
  obtain ⟨ta, pa, sa⟩ := ha
  obtain ⟨tb, pb, sb⟩ := hb
  refine ⟨_, RZ.pi_zipA hg hm (pa_cons pa (pa_cons pb pa_nil hs2) hs) hs hpl, fun M ρ σ H q eq R rp w k th => ?_⟩
  refine sa M ρ σ H _ eq _ rp w (fun s1 ρ1 v H1 g1 r1 w1 => ?_) th
  refine sb M ρ1 σ H1 _ eq _ g1.rep w1 (fun s2 ρ2 u H2 g2 r2 w2 => ?_) (th.go g1)
  obtain ⟨d1, rd1, w3⟩ := (r1.go g1.rep g2).val' w2
  obtain ⟨d2, rd2, w4⟩ := r2.val' w3
  unfold dZip at w4
  rw [hK]
  split at w4
  · obtain ⟨x, xs, rfl, h1, h2⟩ := rd1.lst_inv
    obtain ⟨y, ys, rfl, h3, h4⟩ := rd2.lst_inv
    refine ⟨x, y, xs, ys, rfl, .inl ⟨SqL.of (fz_ex _ _ _ _ h1), SqL.of (fz_ex _ _ _ _ h3), k _ ρ2 H2 _ (g1.trans g2) ?_ w4⟩⟩
    have s1 : ∀ M H, Ex (Fz _ H2) (Fz M H) → SqL G.K H x xs := fun M H e => SqL.of (fz_ex _ _ _ _ (e _ _ h1))
    have s2 : ∀ M H, Ex (Fz _ H2) (Fz M H) → SqL G.K H y ys := fun M H e => SqL.of (fz_ex _ _ _ _ (e _ _ h3))
    refine ⟨fun i M H e hi => ?_, fun i M H v H' e t hi yl => ?_, fun M H e => ⟨xs, ys, s1 M H e, s2 M H e, by rw [h2.len, h4.len, zipD_len]; omega⟩⟩
    · rw [zipD_len] at hi
      exact ⟨xs, ys, xs[i]'(by rw [h2.len]; omega), ys[i]'(by rw [h4.len]; omega), s1 M H e, s2 M H e, List.getElem?_eq_getElem _, List.getElem?_eq_getElem _⟩
    · obtain ⟨T, x', y', rfl, hT, rfl, z1, z2⟩ := yl
      obtain ⟨e1, q1, q2⟩ := h2.get' (z1 xs (s1 M _ e))
      obtain ⟨e2, q3, q4⟩ := h4.get' (z2 ys (s2 M _ e))
      exact ⟨Ex.new hT, _, zipD_get q1 q3, r_pair t hT (q2.ex e) (q4.ex e)⟩
  · obtain ⟨x, xs, rfl, h1, h2⟩ := rd1.tup_inv
    obtain ⟨y, ys, rfl, h3, h4⟩ := rd2.tup_inv
    refine ⟨x, y, xs, ys, rfl, .inr ⟨sqT_ex (fz_ex _ _) h1, sqT_ex (fz_ex _ _) h3, k _ ρ2 H2 _ (g1.trans g2) ?_ w4⟩⟩
    have s1 : ∀ M H, Ex (Fz _ H2) (Fz M H) → SqT G.K H x xs := fun M H e => sqT_ex (fz_ex _ _) (sqT_ex e h1)
    have s2 : ∀ M H, Ex (Fz _ H2) (Fz M H) → SqT G.K H y ys := fun M H e => sqT_ex (fz_ex _ _) (sqT_ex e h3)
    refine ⟨fun i M H e hi => ?_, fun i M H v H' e t hi yl => ?_, fun M H e => ⟨xs, ys, s1 M H e, s2 M H e, by rw [h2.len, h4.len, zipD_len]; omega⟩⟩
    · rw [zipD_len] at hi
      exact ⟨xs, ys, xs[i]'(by rw [h2.len]; omega), ys[i]'(by rw [h4.len]; omega), s1 M H e, s2 M H e, List.getElem?_eq_getElem _, List.getElem?_eq_getElem _⟩
    · obtain ⟨T, x', y', rfl, hT, rfl, z1, z2⟩ := yl
      obtain ⟨e1, q1, q2⟩ := h2.get' (z1 xs (s1 M _ e))
      obtain ⟨e2, q3, q4⟩ := h4.get' (z2 ys (s2 M _ e))
      exact ⟨Ex.new hT, _, zipD_get q1 q3, r_pair t hT (q2.ex e) (q4.ex e)⟩
  · exact w4.elim
def wRev (we : WE) : WI := fun ρ q e => we ρ (fun s ρ1 => s.val' fun d => dRun d fun ds => q ds.reverse ρ1) e
theorem pxi_rev {tg : Expr} (hg : Gl X "reversed") (hm : X.mg "reversed" = none) (he : PX G X W e we) (hs : starEach [e] X.env = [(false, eval e X.env)] := by rfl) (hK : X.K = G.K := by rfl) : PXI G X W tg (.Call (.Name "reversed" p) [e] [] pos) (wRev we) := by
  obtain ⟨te, pe, se⟩ := he
  refine ⟨_, pi_reversed hg hm (pa_cons pe pa_nil hs) hs, fun M ρ σ H q eq R rp w k th => ?_⟩
  refine se M ρ σ H _ eq _ rp w (fun s ρ1 v H1 g rs q => ?_) th
  obtain ⟨d, rd, q⟩ := rs.val' q
  obtain ⟨a, xs, ds, rfl, h1, h2, q⟩ := run_of rd q
  rw [hK]
  refine ⟨a, xs, rfl, h1 M H1 (Ex.refl _), k _ ρ1 H1 _ g ?_ q⟩
  have hl : ds.reverse.length = xs.length := by rw [List.length_reverse, h2.len]
  refine ⟨fun i M H e hi => ?_, fun i M H x H' e t hi y => ?_, fun M H e => Nat.le_of_eq hl.symm⟩
  · rw [hl] at hi
    exact ⟨hi, xs, xs[xs.length - 1 - i]'(by omega), h1 M H e, List.getElem?_eq_getElem _⟩
  · rw [hl] at hi
    obtain ⟨rfl, y⟩ := y
    obtain ⟨d, e1, e2⟩ := h2.get' (y xs (h1 M _ e))
    refine ⟨Ex.refl _, d, ?_, e2.ex e⟩
    rw [List.getElem?_reverse (by rw [← h2.len]; exact hi), ← h2.len]; exact e1
end
end Pu
/-! ### the pure layer: dicts -/
namespace Pu
open PySem PySem.Spec PyProof.Rows L2 Lk Evl StX
def D.key : D → Option Key
  | .int i => some (.inl i)
  | .str x => some (.inr x)
  | _ => none
theorem key_r {G : Gx} {H : Hp} {k : Key} {d : D} (h : R G H (kV k) d) : d.key = some k := by
  cases k <;> cases h <;> rfl
theorem key_v {G : Gx} {H : Hp} {k : Key} {v : V} {d : D} (h : R G H v d) (e : d.key = some k) : v = kV k := by
  cases d <;> first | (cases e; done) | skip
  · cases e; exact h.int_inv
  · cases e; exact h.str_inv
section
variable {G : Gx} {X : Cx} {W : WX} {M : List Addr} {ρ ρ1 : Env} {σ : L2.St} {H H1 : Hp} {e a b c o : Expr} {es : List Expr} {pos p : Pos} {wa wb wc we : WE}
/-! ### displays -/
abbrev WD := Env → (List (D × D) → Env → Prop) → EQ → Prop
abbrev PRs (G : Gx) (H : Hp) : List (V × V) → List (D × D) → Prop := Paired fun p d => R G H p.1 d.1 ∧ R G H p.2 d.2
theorem PRs.ex {H' : Hp} (x : Ex H H') {ps : List (V × V)} {ds : List (D × D)} (h : PRs G H ps ds) : PRs G H' ps ds := by
  induction h with
  | nil => exact .nil
  | cons a _ ih => exact .cons ⟨a.1.ex x, a.2.ex x⟩ ih
structure PXD (G : Gx) (X : Cx) (W : WX) (pos : Pos) (ks : List (Option Expr)) (vs : List Expr) (w : WD) : Prop where
  ex : ∃ trs, PPs X pos ks vs trs ∧ ∀ M ρ σ H q eq Q, Rep G M ρ σ H → w ρ q eq → (∀ ds ρ' ps H', Go G M σ ρ H ρ' H' → PRs G (Fz M H') ps ds → q ds ρ' → Q ps H') → Thr G M W σ ρ H eq → tPairs trs σ H Q
def wdNil : WD := fun ρ q _ => q [] ρ
def wdCons (wa wb : WE) (wr : WD) : WD := fun ρ q e => wa ρ (fun s1 ρ1 => s1.val' fun k => wb ρ1 (fun s2 ρ2 => s2.val' fun v => wr ρ2 (fun ps ρ3 => q ((k, v) :: ps) ρ3) e) e) e
theorem pxd_nil : PXD G X W pos [] [] wdNil := ⟨[], pps_nil, fun M ρ σ H q eq Q rp w k _ => k [] ρ [] H (.refl rp) .nil w⟩
theorem pxd_cons {ks : List (Option Expr)} {vs : List Expr} {wr : WD} (ha : PX G X W a wa) (hb : PX G X W b wb) (hr : PXD G X W pos ks vs wr) : PXD G X W pos (some a :: ks) (b :: vs) (wdCons wa wb wr) := by
  obtain ⟨ta, pa, sa⟩ := ha
  obtain ⟨tb, pb, sb⟩ := hb
  obtain ⟨tr, pr, sr⟩ := hr
  refine ⟨(ta, tb) :: tr, pps_cons pa pb pr, fun M ρ σ H q eq Q rp w k th => ?_⟩
  refine sa M ρ σ H _ eq _ rp w (fun s1 ρ1 x H1 g1 r1 w1 => ?_) th
  obtain ⟨dk, rk, w1⟩ := r1.val' w1
  refine sb M ρ1 σ H1 _ eq _ g1.rep w1 (fun s2 ρ2 y H2 g2 r2 w2 => ?_) (th.go g1)
  obtain ⟨dv, rv, w2⟩ := r2.val' w2
  refine sr M ρ2 σ H2 _ eq _ g2.rep w2 (fun ds ρ3 ps H3 g3 r3 w3 => ?_) (th.go (g1.trans g2))
  exact k _ ρ3 _ H3 ((g1.trans g2).trans g3) (.cons ⟨(rk.ex (g2.fz g1.rep)).ex (g3.fz g2.rep), rv.ex (g3.fz g2.rep)⟩ r3) w3
theorem merge_app : ∀ {more kvs : List (Key × V)}, ((kvs ++ more).map (·.1)).Nodup → mergeK kvs more = kvs ++ more
  | [], kvs, _ => by simp [mergeK]
  | p :: more, kvs, h => by
    have hp : (kvs.any fun kv => decide (kv.1 = p.1)) = false := by
      rw [List.any_eq_false]
      intro x hx
      simp only [decide_eq_true_eq]
      intro e
      rw [List.map_append, List.nodup_append] at h
      exact h.2.2 x.1 (List.mem_map.mpr ⟨x, hx, rfl⟩) p.1 (by simp) e
    have e1 : putK kvs p.1 p.2 = kvs ++ [p] := by
      unfold putK
      rw [if_neg (by rw [hp]; exact Bool.false_ne_true)]
    show mergeK (putK kvs p.1 p.2) more = _
    rw [e1, merge_app (by rw [List.append_assoc]; exact h), List.append_assoc]; rfl
theorem pr_keys : ∀ {ps : List (V × V)} {ds : List (D × D)} {ks : List Key}, PRs G H ps ds → allM D.key (ds.map (·.1)) = some ks → ∃ kvs : List (Key × V), ps = kvs.map (fun kv => (kV kv.1, kv.2)) ∧ kvs.map (·.1) = ks ∧ RAll G H (kvs.map (fun p => kV p.1)) (ds.map (·.1)) ∧ RAll G H (kvs.map (·.2)) (ds.map (·.2))
  | _, _, ks, .nil, h => by cases h; exact ⟨[], rfl, rfl, .nil, .nil⟩
  | _, _, ks, .cons (a := p) (b := d) a t, h => by
    rw [List.map_cons, allM] at h
    split at h
    · rename_i k ks' e1 e2
      cases h
      obtain ⟨kvs, h1, h2, h3, h4⟩ := pr_keys t e2
      have ek := key_v a.1 e1
      refine ⟨(k, p.2) :: kvs, by rw [h1, List.map_cons, ← ek], by rw [List.map_cons, h2], ?_, .cons a.2 h4⟩
      rw [List.map_cons, List.map_cons]
      refine .cons ?_ h3
      rw [← ek]; exact a.1
    · cases h
/-- {k: v, ..}: keys texts or ints, each once -/
def nDisp (w : WD) : WN := fun ρ q e => w ρ (fun ds ρ1 => optK (allM D.key (ds.map (·.1))) fun ks => ks.length ≤ 15 ∧ ks.Nodup ∧ q (.dct (ds.map (·.1)) (ds.map (·.2))) ρ1) e
theorem pxn_disp {keys : List (Option Expr)} {values : List Expr} {w : WD} (h : PXD G X W pos keys values w) (hall : keys.all (·.isSome) = true) (hl : keys.length = values.length) (h0 : keys ≠ []) (h15 : keys.length ≤ 15) :
    PXN G X W (.Dict keys values pos) (nDisp w) := by
  obtain ⟨trs, pp, sp⟩ := h
  refine ⟨_, pe_disp pp hall hl h0 h15, fun M ρ σ H q eq Q rp w k th => ?_⟩
  intro l hp
  have nM : l ∉ M := rp.new hp
  have nS : ¬ Seen ρ σ l := fun z => nM (rp.seenM z)
  have rN := rep_new (o := .dK []) rp hp
  have kp0 : ∀ {H' : Hp}, Keep (Seen ρ σ) (upd H l (.dK [])) H' → Keep (Seen ρ σ) H H' := fun kp b o e n t => kp b o (by rw [upd_ne (ne_of_none e hp)]; exact e) n t
  refine sp (l :: M) ρ σ _ _ eq _ rN w (fun ds ρ' ps H2 g pr w2 => ?_) (fun C ns vs ρ' dx H' g x z => ?_)
  · have hl2 : H2 l = some (.dK []) := g.kp l _ upd_same nS (fun _ z => nomatch z)
    obtain ⟨ks, e1, h1, h2, w3⟩ := optK_of w2
    obtain ⟨kvs, e2, e3, r1, r2⟩ := pr_keys pr e1
    have em : mergeK [] kvs = kvs := by rw [merge_app (by rw [List.nil_append, e3]; exact h2), List.nil_append]
    refine ⟨hl2, kvs, e2, by rw [← List.length_map (f := (·.1)), e3]; exact h1, ?_⟩
    rw [em]
    have nS' : ¬ Seen ρ' σ l := fun z => nS (g.kin.seen.mp z)
    have rM := rep_mut (o := .dK kvs) g.rep nS' (pln_dK hl2)
    have fe : Fz (l :: M) (upd H2 l (.dK kvs)) = Fz (l :: M) H2 := fz_mut
    refine k (.dct (ds.map (·.1)) (ds.map (·.2))) ρ' l _ ⟨rep_less rM nS' (pln_dK upd_same), g.kin, fun b o e n t => ?_⟩ nM (.of hp) rM ⟨kvs, upd_same, ?_, ?_⟩ w3
    · rw [upd_ne (ne_of_none e hp)]
      exact kp0 g.kp b o e n t
    · rw [fe]; exact r1
    · rw [fe]; exact r2
  · have nS' : ¬ Seen ρ' σ l := fun z => nS (g.kin.seen.mp z)
    refine th C ns vs ρ' dx H' ⟨rep_less g.rep nS' (pln_dK (g.kp l _ upd_same nS (fun _ z => nomatch z))), g.kin, kp0 g.kp⟩ ?_ z
    have an : Ex (Fz (l :: M) H') (Fz M H') := fz_anti fun b hb => List.mem_cons_of_mem _ hb
    cases dx with
    | none => exact x
    | some d => obtain ⟨fs, x1, x2, x3⟩ := x; exact ⟨fs, an _ _ x1, x2, x3.ex an⟩
theorem pxn_d0 : PXN G X W (.Dict [] [] pos) (fun ρ q _ => q (.dct [] []) ρ) :=
  ⟨_, pe_dnewK, fun M ρ σ H q eq Q rp w k th l hp => k (.dct [] []) ρ l _ (Go.ex rp (Ex.new hp)) (rp.new hp) (.of hp) (rep_new rp hp) ⟨[], upd_same, .nil, .nil⟩ w⟩
def nD0 : WN := fun ρ q _ => q (.dct [] []) ρ
/-! ### d.get(k) -/
def dGetD : List D → List D → Key → Option D
  | k :: ks, v :: vs, x => if k.key = some x then some v else dGetD ks vs x
  | _, _, _ => none
theorem getD_r : ∀ {kvs : List (Key × V)} {ks vs : List D} {x : Key}, RAll G H (kvs.map (fun p => kV p.1)) ks → RAll G H (kvs.map (·.2)) vs → ((valV kvs x = none ∧ dGetD ks vs x = none) ∨ ∃ v d, valV kvs x = some v ∧ dGetD ks vs x = some d ∧ R G H v d)
  | [], _, _, x, h1, h2 => by cases h1; cases h2; exact .inl ⟨rfl, rfl⟩
  | p :: kvs, _, _, x, h1, h2 => by
    rw [List.map_cons] at h1 h2
    cases h1 with | cons a t =>
    cases h2 with | cons b u =>
    unfold dGetD
    rw [key_r a]
    by_cases e : p.1 = x
    · rw [if_pos (by rw [e])]
      exact .inr ⟨p.2, _, valV_pos e, rfl, b⟩
    · rw [if_neg (fun z => e (Option.some.inj z))]
      have hv : valV (p :: kvs) x = valV kvs x := by simp [valV, List.find?_cons, e]
      rw [hv]
      exact getD_r t u
def isDct : D → Prop
  | .dct _ _ => True
  | _ => False
def dGet1 (d y : D) (k : D → Prop) : Prop := match d, y.key with
  | .dct ks vs, some x => k ((dGetD ks vs x).getD .non)
  | _, _ => False
theorem Arg.dct {v : V} {ks vs : List D} (h : Arg G M H v (.dct ks vs)) : ∃ a kvs, v = .ref a ∧ Rd H a (.dK kvs) ∧ RAll G (Fz M H) (kvs.map (fun p => kV p.1)) ks ∧ RAll G (Fz M H) (kvs.map (·.2)) vs := by
  cases h with
  | fz h =>
    cases h with
    | dct h t u =>
      obtain ⟨kvs, h1, rfl, rfl⟩ := h
      exact ⟨_, kvs, rfl, rd_ex (fz_ex _ _) h1, t, u⟩
  | ow a e m h => obtain ⟨kvs, h1, h2, h3⟩ := h; exact ⟨a, kvs, e, .inl h1, h2, h3⟩
def wDget1 (wo wa : WE) : WE := fun ρ q e => wo ρ (fun s ρ1 => s.gets ρ1 fun d0 => isDct d0 ∧ wa ρ1 (fun s2 ρ2 => s.gets ρ2 fun d => s2.gets ρ2 fun y => dGet1 d y fun z => True ∧ q (.val z) ρ2) e) e
theorem isD_of {v : V} {d : D} (a : Arg G M H v d) (h : isDct d) : ∃ p, v = .ref p ∧ IsD H p := by
  cases d <;> first | exact h.elim | skip
  obtain ⟨p, kvs, rfl, h1, _⟩ := a.dct
  exact ⟨p, rfl, .inl ⟨kvs, h1⟩⟩
theorem px_dget1 {apos cpos : Pos} (hu : X.A.units + 1 < cLine) (ho : PX G X W o wa) (he : PX G X W e wb) (m : M1 X o "get" apos e cpos) : PX G X W (.Call (.Attribute o "get" apos) [e] [] cpos) (wDget1 wa wb) := by
  obtain ⟨ta, pa, sa⟩ := ho
  obtain ⟨tb, pb, sb⟩ := he
  refine ⟨_, pe_dget1 hu pa pb m, fun M ρ σ H q eq Q rp w k th => ?_⟩
  refine sa M ρ σ H _ eq _ rp w (fun s1 ρ1 x H1 g1 r1 w1 => ?_) th
  obtain ⟨d0, a0, i0, w2⟩ := r1.arg g1.rep w1
  obtain ⟨l, rfl, isd⟩ := isD_of a0 i0
  refine ⟨l, rfl, isd, ?_⟩
  refine sb M ρ1 σ H1 _ eq _ g1.rep w2 (fun s2 ρ2 y H2 g2 r2 w3 => ?_) (th.go g1)
  obtain ⟨d, a1, w4⟩ := (r1.go g1.rep g2).arg g2.rep w3
  obtain ⟨dy, a2, w5⟩ := r2.arg g2.rep w4
  unfold dGet1 at w5
  split at w5
  · rename_i ks vs z hz
    obtain ⟨l', kvs, e1, e2, e3, e4⟩ := a1.dct
    cases e1
    have ey := key_v a2.full hz
    refine ⟨valV kvs z, .inl ⟨kvs, z, e2, ey, rfl⟩, ?_⟩
    rcases getD_r (x := z) e3 e4 with ⟨n1, n2⟩ | ⟨u, d', n1, n2, n3⟩
    · rw [n2] at w5
      rw [n1]
      exact k (.val .non) ρ2 _ H2 (g1.trans g2) R.non w5.2
    · rw [n2] at w5
      rw [n1]
      exact k (.val d') ρ2 _ H2 (g1.trans g2) n3 w5.2
  · exact w5.elim
/-! ### a dict of the module -/
def KMapD (G : Gx) (wd : World) (a : Addr) (f : Str → Option D) : Prop := ∃ fv : Str → Option V, KMap G.K wd a fv ∧ ∀ z H, R G H ((fv z).getD .non) ((f z).getD .non)
def wKget (f : Str → Option D) (we : WE) : WE := fun ρ q e => we ρ (fun s ρ1 => s.gets ρ1 fun d => match d with
  | .str z => True ∧ q (.val ((f z).getD .non)) ρ1
  | _ => False) e
theorem px_kget {x : Str} {l : Addr} {apos cpos : Pos} {f : Str → Option D} (hk : KMapD G X.w l f) (hg : Gl X x) (hm : X.mg x = some (.ref l)) (he : PX G X W e we) (m : M1 X (.Name x p) "get" apos e cpos := by exact ⟨rfl, rfl, rfl, rfl⟩) (hd : (x == ("__debug__" : Str)) = false := by decide) (hK : X.K = G.K := by rfl) :
    PX G X W (.Call (.Attribute (.Name x p) "get" apos) [e] [] cpos) (wKget f we) := by
  obtain ⟨te, pe, se⟩ := he
  obtain ⟨fv, h1, h2⟩ := hk
  refine ⟨_, pe_kget (K := G.K) (w := X.w) (pe_glob (v := .ref l) hg hm rfl hd) pe m hK, fun M ρ σ H q eq Q rp w k th => ?_⟩
  refine ⟨l, fv, rfl, h1, se M ρ σ H _ eq _ rp w (fun s ρ1 v H1 g rs w1 => ?_) th⟩
  obtain ⟨d, a1, w2⟩ := rs.arg g.rep w1
  split at w2
  · exact ⟨_, a1.str, k (.val _) ρ1 _ H1 g (h2 _ _) w2.2⟩
  · exact w2.elim
end
end Pu
/-! ### the pure layer: how a reading is answered -/
namespace Pu
open PySem PySem.Spec PyProof.Rows L2 Lk Evl StX
def Pure (new : Bool) (n m : Nat) (psp : PSp) (w : WS) : Prop := ∀ cells q eq, cells.length = n → psp cells q eq → w (endsP new cells q fun _ _ _ _ => False) (cells ++ List.replicate (m - cells.length) .un)
def PureX (new : Bool) (n m : Nat) (psp : PSp) (w : WS) : Prop := ∀ cells q eq, cells.length = n → psp cells q eq → w (endsP new cells q eq) (cells ++ List.replicate (m - cells.length) .un)
def Len (n : Nat) (psp : PSp) : Prop := ∀ cells q eq, psp cells q eq → cells.length = n
theorem ite2 {c : Bool} {A B : Prop} (h1 : c = true → A) (h2 : c = false → B) : (if c = true then A else B) := by
  cases c with
  | true => rw [if_pos rfl]; exact h1 rfl
  | false => rw [if_neg Bool.false_ne_true]; exact h2 rfl
theorem np {i : Nat} {l : List Nat} (h : l.contains i = false) : i ∉ l := fun z => by
  rw [List.contains_iff_mem.mpr z] at h; cases h
theorem np1 {i : Nat} {l : List Nat} (h : l.contains i = false) : ∀ j ∈ [i], j ∉ l := fun j hj => by
  rw [List.mem_singleton.mp hj]; exact np h
theorem npl {is l : List Nat} (h : (is.any fun i => l.contains i) = false) : ∀ j ∈ is, j ∉ l := fun j hj z => by
  rw [List.any_eq_false] at h
  exact h j hj (List.contains_iff_mem.mpr z)
theorem nd1 {i : Nat} : [i].Nodup := by simp
theorem dec_t {p : Prop} [Decidable p] (h : decide p = true) : p := of_decide_eq_true h
theorem dec_f {p : Prop} [Decidable p] (h : decide p = false) : ¬ p := of_decide_eq_false h
/-- the slot that is given holds d -/
def Cell.has (c : Cell) (d : D) : Prop := c = .fz d ∨ c = .ow d
/-- what a value holds, one by one, of no great length -/
def D.items : D → Option (List D)
  | .lst ds => some ds
  | .tup ds => some ds
  | .str z => some (z.cps.toList.map sgnD)
  | _ => none
theorem idx_enum {ds : List D} {i : Nat} {x : D} (h : (enumD ds)[i]? = some x) : ∃ d, ds[i]? = some d ∧ x = .tup [.int (i : Nat), d] := by
  unfold enumD at h
  rw [List.getElem?_mapIdx] at h
  cases e : ds[i]? with
  | none => rw [e] at h; cases h
  | some d => rw [e] at h; exact ⟨d, rfl, (Option.some.inj h).symm⟩
theorem idx_zip {xs ys : List D} {i : Nat} {x : D} (h : (zipD xs ys)[i]? = some x) : ∃ a b, xs[i]? = some a ∧ ys[i]? = some b ∧ x = .tup [a, b] := by
  unfold zipD at h
  rw [List.getElem?_map] at h
  cases e : (xs.zip ys)[i]? with
  | none => rw [e] at h; cases h
  | some p =>
    rw [e] at h
    obtain ⟨h1, h2⟩ := List.getElem?_zip_eq_some.mp (show (xs.zip ys)[i]? = some (p.1, p.2) from e)
    exact ⟨p.1, p.2, h1, h2, (Option.some.inj h).symm⟩
theorem idx_rng {n i : Nat} {lo : Int} {x : D} (h : ((List.range n).map fun i => D.int (lo + (i : Nat)))[i]? = some x) : i < n ∧ x = .int (lo + (i : Nat)) := by
  rw [List.getElem?_map] at h
  by_cases hi : i < n
  · rw [List.getElem?_range hi] at h; exact ⟨hi, (Option.some.inj h).symm⟩
  · rw [List.getElem?_eq_none (by rw [List.length_range]; omega)] at h; cases h
theorem len_rng {n : Nat} {f : Nat → D} : ((List.range n).map f).length = n := by rw [List.length_map, List.length_range]
theorem idx_map {α : Type} {f : α → D} {xs : List α} {i : Nat} {x : D} (h : (xs.map f)[i]? = some x) : ∃ a, xs[i]? = some a ∧ x = f a := by
  rw [List.getElem?_map] at h
  cases e : xs[i]? with
  | none => rw [e] at h; cases h
  | some a => rw [e] at h; exact ⟨a, rfl, (Option.some.inj h).symm⟩
theorem take_snoc {α β : Type} {f : α → β} {xs : List α} {i : Nat} {x : α} (h : xs[i]? = some x) : ((xs.take i).map f) ++ [f x] = (xs.take (i + 1)).map f := by
  rw [List.take_add_one, h]; simp
/-! ### the dice -/
def isDice (d : D) : Prop := ∃ x y z : Int, d = .lst [.int x, .int y, .int z]
theorem isDice_mk (x y z : Int) : isDice (.lst [.int x, .int y, .int z]) := ⟨x, y, z, rfl⟩
def sp__law_roll : PSp := fun cells q _ => ∃ d t, cells = [.ow d, .fz (.int t)] ∧ isDice d ∧ 0 < t ∧ t < 2 ^ 200 ∧ ∀ d' r, isDice d' → 0 ≤ r → r < t → q (.int r) [.ow d', .fz (.int t)]
theorem len__law_roll : Len 2 sp__law_roll := fun cells q eq ⟨d, t, h, _⟩ => by rw [h]; rfl
/-- one of the items of a list, a tuple, a text -/
def sp__law_one_of : PSp := fun cells q _ => ∃ d c e ds, cells = [.ow d, c] ∧ isDice d ∧ c.has e ∧ e.items = some ds ∧ ds ≠ [] ∧ ds.length ≤ sizeLine ∧ ∀ d' x, isDice d' → x ∈ ds → q x [.ow d', c]
theorem len__law_one_of : Len 2 sp__law_one_of := fun cells q eq ⟨d, c, e, ds, h, _⟩ => by rw [h]; rfl
def sp__law_dice : PSp := fun cells q _ => ∃ (ns : List Int) (k : Nat), cells = [.fz (.sl (ns.map D.int)), .fz (.int k)] ∧ ∀ d, isDice d → q d [.fz (.sl (ns.map D.int)), .fz (.int k)]
theorem len__law_dice : Len 2 sp__law_dice := fun cells q eq ⟨ns, k, h, _⟩ => by rw [h]; rfl
def sp__law_all_signs : PSp := fun cells q _ => cells = [] ∧ q (.str (Str.ofString "#$0123:_abcdefg")) []
theorem len__law_all_signs : Len 0 sp__law_all_signs := fun cells q eq ⟨h, _⟩ => by rw [h]; rfl
/-- reading of _law_dice: slots 0:script 1:at 2:cell 3:great 4:mixed, owned - -/
def w__law_dice (G : Gx) : WS := (wSeq (wAsg [2] (wOp dAdd (wOp dMul (wC (.int 41)) (wName 1)) (wC (.int 13))) (wgName 2))
  (wSeq (wIfS (wB (wOp dLt (wName 1) (wCall (d1 dLen) (wCons (wName 0) wNil))))
  (wAsg [2] (wOp dIx (wName 0) (wName 1)) (wgName 2))
  wNext)
  (wSeq (wAsg [3] (wOp dMod (wCall (d1 dToInt) (wCons (wCall (d1 dAbs) (wCons (wName 2) wNil)) wNil)) (wOp dPow (wOp dPow (wC (.int 10)) (wC (.int 60))) (wC (.int 12)))) (wgName 3))
  (wSeq (wAsg [4] (wOp dAdd (wOp dAdd (wOp dAdd (wOp dMul (wOp dMod (wCall (d1 dToInt) (wCons (wName 3) wNil)) (wC (.int 2147483399))) (wC (.int 69623))) (wOp dMul (wC (.int 5003)) (wName 1))) (wOp dMul (wC (.int 23)) (wCall (d1 dToInt) (wCons (wOp dLt (wName 2) (wC (.int 0))) wNil)))) (wC (.int 59))) (wgName 4))
  (wRetNew (nLst (wCons (wCall (d2 dMax2) (wCons (wC (.int 0)) (wCons (wOp dSub (wName 3) (wOp dPow (wC (.int 10)) (wC (.int 18)))) wNil))) (wCons (wOp dMod (wCall (d1 dToInt) (wCons (wName 4) wNil)) (wC (.int 2305843009213693907))) (wCons (wC (.int 0)) wNil)))))))))
/-- reading of _law_roll: slots 0:dice 1:total 2:found 3:one 4:two, owned dice -/
def w__law_roll (G : Gx) : WS := (wSeq (wIfS (wB (wOp dGt (wOp dIx (wName 0) (wC (.int 0))) (wC (.int 0))))
  (wSeq (wAsg [2] (wOp dMod (wCall (d1 dToInt) (wCons (wOp dIx (wName 0) (wC (.int 0))) wNil)) (wName 1)) (wgName 2))
  (wSeq (wStore 0 (wOp dFdiv (wOp dIx (wName 0) (wC (.int 0))) (wName 1)) (wC (.int 0)))
  (wRet (wName 2))))
  wNext)
  (wSeq (wStore 0 (wOp dAdd (wOp dIx (wName 0) (wC (.int 2))) (wC (.int 1))) (wC (.int 2)))
  (wSeq (wAsg [3] (wOp dMod (wCall (d1 dToInt) (wCons (wOp dAdd (wOp dIx (wName 0) (wC (.int 1))) (wOp dMul (wC (.int 1000333)) (wOp dIx (wName 0) (wC (.int 2))))) wNil)) (wC (.int 2305843009213693951))) (wgName 3))
  (wSeq (wAsg [4] (wOp dAdd (wOp dMul (wOp dMod (wCall (d1 dToInt) (wCons (wOp dMul (wName 3) (wName 3)) wNil)) (wC (.int 2305843009213693921))) (wName 3)) (wOp dMul (wC (.int 9013)) (wOp dIx (wName 0) (wC (.int 2))))) (wgName 4))
  (wSeq (wAsg [4] (wOp dMod (wCall (d1 dToInt) (wCons (wName 4) wNil)) (wC (.int 2305843009213693907))) (wgName 4))
  (wRet (wOp dMod (wCall (d1 dToInt) (wCons (wOp dFdiv (wName 4) (wC (.int 16384))) wNil)) (wName 1))))))))
/-- reading of _law_one_of: slots 0:dice 1:items, owned dice -/
def w__law_one_of (G : Gx) : WS := (wRet (wOp dIx (wName 1) (wCallP sp__law_roll (wCons (wName 0) (wCons (wCall (d1 dLen) (wCons (wName 1) wNil)) wNil)))))
/-- reading of _law_all_signs: slots , owned - -/
def w__law_all_signs (G : Gx) : WS := (wRet (wC (.str (Str.ofString "#$0123:_abcdefg"))))
theorem pure__law_roll (G : Gx) : Pure false 2 5 sp__law_roll (w__law_roll G) := by
  intro cells q eq hl hp
  obtain ⟨d, t, rfl, ⟨x, y, z, rfl⟩, h0, h1, k⟩ := hp
  refine ⟨_, rfl, ite2 (fun hc => ?_) (fun hc => ?_)⟩
  · exact ⟨_, rfl, h0, np1 rfl, _, rfl, ⟨h0, h1⟩, _, rfl, rfl, k _ _ (isDice_mk _ _ _) (Int.emod_nonneg _ (Int.ne_of_gt h0)) (Int.emod_lt_of_pos _ h0)⟩
  · have b1 : ∀ u : Int, 0 ≤ u % 2305843009213693951 ∧ u % 2305843009213693951 < 2305843009213693951 := fun u => ⟨Int.emod_nonneg _ (by decide), Int.emod_lt_of_pos _ (by decide)⟩
    refine ⟨_, rfl, _, rfl, _, rfl, _, rfl, .inl ⟨by decide, by decide⟩, by decide, np1 rfl, ?_⟩
    obtain ⟨c1, c2⟩ := b1 (y + 1000333 * (z + 1))
    refine ⟨.inl ⟨by omega, by omega⟩, by decide, .inr ⟨by omega, by omega⟩, _, rfl, .inl ⟨by decide, by decide⟩, np1 rfl, by decide, np1 rfl, ⟨by decide, by decide⟩, h0, rfl, ?_⟩
    exact k _ _ (isDice_mk _ _ _) (Int.emod_nonneg _ (Int.ne_of_gt h0)) (Int.emod_lt_of_pos _ h0)
theorem ixN_nat {n i : Nat} (h : i < n) : ixN n (i : Int) = some i := by
  unfold ixN
  rw [if_pos (Int.natCast_nonneg i), if_pos (by exact_mod_cast h)]
  simp
theorem atI_nat {α : Type} {l : List α} {i : Nat} (h : i < l.length) : atI l (i : Int) = some l[i] := by
  unfold atI
  rw [ixN_nat h]
  exact List.getElem?_eq_getElem h
theorem atI_in {α : Type} {l : List α} {r : Int} (h0 : 0 ≤ r) (h1 : r < l.length) : ∃ x, atI l r = some x ∧ x ∈ l := by
  obtain ⟨n, rfl⟩ : ∃ n : Nat, r = n := ⟨r.toNat, (Int.toNat_of_nonneg h0).symm⟩
  have hn : n < l.length := by exact_mod_cast h1
  exact ⟨_, atI_nat hn, List.getElem_mem hn⟩
theorem pure__law_one_of (G : Gx) : Pure false 2 2 sp__law_one_of (w__law_one_of G) := by
  intro cells q eq hl hp
  obtain ⟨d, c, e, ds, rfl, hd, hc, hi, hne, hsz, k⟩ := hp
  have h0 : 0 < ds.length := List.length_pos_iff.mpr hne
  have hb : (ds.length : Int) < 2 ^ 200 := by
    have : ds.length ≤ 16777216 := hsz
    exact Int.lt_of_le_of_lt (show (ds.length : Int) ≤ 16777216 by omega) (by decide)
  cases e <;> first | (cases hi; done) | skip
  · rename_i x
    have e1 : ds = x.cps.toList.map sgnD := (Option.some.inj hi).symm
    have e2 : ds.length = x.length := by rw [e1, List.length_map]; simp [Str.length]
    rcases hc with rfl | rfl
    · refine ⟨by rw [← e2]; exact hsz, nd1, d, (x.length : Nat), rfl, hd, by omega, by rw [← e2]; exact hb, fun d' r hd' r0 r1 => ?_⟩
      refine ⟨by rw [← e2]; exact hsz, ?_⟩
      obtain ⟨y, h1, h2⟩ := atI_in (l := x.cps.toList) r0 (by rw [← e2, e1, List.length_map] at r1; exact r1)
      exact ⟨y, h1, rfl, k d' _ hd' (by rw [e1]; exact List.mem_map_of_mem h2)⟩
    · refine ⟨by rw [← e2]; exact hsz, nd1, d, (x.length : Nat), rfl, hd, by omega, by rw [← e2]; exact hb, fun d' r hd' r0 r1 => ?_⟩
      refine ⟨by rw [← e2]; exact hsz, ?_⟩
      obtain ⟨y, h1, h2⟩ := atI_in (l := x.cps.toList) r0 (by rw [← e2, e1, List.length_map] at r1; exact r1)
      exact ⟨y, h1, rfl, k d' _ hd' (by rw [e1]; exact List.mem_map_of_mem h2)⟩
  · cases hi
    rcases hc with rfl | rfl
    · refine ⟨nd1, d, (ds.length : Nat), rfl, hd, by omega, hb, fun d' r hd' r0 r1 => ?_⟩
      obtain ⟨y, h1, h2⟩ := atI_in r0 r1
      exact ⟨y, h1, rfl, k d' _ hd' h2⟩
    · refine ⟨nd1, d, (ds.length : Nat), rfl, hd, by omega, hb, fun d' r hd' r0 r1 => ?_⟩
      obtain ⟨y, h1, h2⟩ := atI_in r0 r1
      exact ⟨y, h1, rfl, k d' _ hd' h2⟩
  · cases hi
    rcases hc with rfl | rfl
    · refine ⟨nd1, d, (ds.length : Nat), rfl, hd, by omega, hb, fun d' r hd' r0 r1 => ?_⟩
      obtain ⟨y, h1, h2⟩ := atI_in r0 r1
      exact ⟨y, h1, rfl, k d' _ hd' h2⟩
    · refine ⟨nd1, d, (ds.length : Nat), rfl, hd, by omega, hb, fun d' r hd' r0 r1 => ?_⟩
      obtain ⟨y, h1, h2⟩ := atI_in r0 r1
      exact ⟨y, h1, rfl, k d' _ hd' h2⟩
theorem powb {i j : Int} (h0 : 0 ≤ j) (h : (Builtin.Int.intBits i : Int) * j ≤ 2 ^ 27) : CPowB i j := ⟨h0, h⟩
theorem mul64 {i j : Int} (h : -(2 ^ 64) < i ∧ i < 2 ^ 64) : CMul i j := .inl h
theorem mul64r {i j : Int} (h : -(2 ^ 64) < j ∧ j < 2 ^ 64) : CMul i j := .inr h
theorem pure__law_dice (G : Gx) : Pure true 2 5 sp__law_dice (w__law_dice G) := by
  intro cells q eq hl hp
  obtain ⟨ns, k, rfl, hq⟩ := hp
  have rest : ∀ v : Int, (wSeq (wAsg [3] (wOp dMod (wCall (d1 dToInt) (wCons (wCall (d1 dAbs) (wCons (wName 2) wNil)) wNil)) (wOp dPow (wOp dPow (wC (.int 10)) (wC (.int 60))) (wC (.int 12)))) (wgName 3))
  (wSeq (wAsg [4] (wOp dAdd (wOp dAdd (wOp dAdd (wOp dMul (wOp dMod (wCall (d1 dToInt) (wCons (wName 3) wNil)) (wC (.int 2147483399))) (wC (.int 69623))) (wOp dMul (wC (.int 5003)) (wName 1))) (wOp dMul (wC (.int 23)) (wCall (d1 dToInt) (wCons (wOp dLt (wName 2) (wC (.int 0))) wNil)))) (wC (.int 59))) (wgName 4))
  (wRetNew (nLst (wCons (wCall (d2 dMax2) (wCons (wC (.int 0)) (wCons (wOp dSub (wName 3) (wOp dPow (wC (.int 10)) (wC (.int 18)))) wNil))) (wCons (wOp dMod (wCall (d1 dToInt) (wCons (wName 4) wNil)) (wC (.int 2305843009213693907))) (wCons (wC (.int 0)) wNil)))))))
      (endsP true [.fz (.sl (ns.map D.int)), .fz (.int k)] q fun _ _ _ _ => False) [.fz (.sl (ns.map D.int)), .fz (.int k), .fz (.int v), .un, .un] := by
    intro v
    refine ⟨powb (by decide) (by decide +kernel), powb (by decide) (by decide +kernel), by decide +kernel, np1 rfl, by decide, mul64r (by decide), mul64 (by decide), mul64 (by decide), np1 rfl, powb (by decide) (by decide +kernel), by decide, Nat.le_of_ble_eq_true rfl, ?_⟩
    exact hq _ (isDice_mk _ _ _)
  refine ⟨mul64 (by decide), np1 rfl, ite2 (fun hc => ?_) (fun hc => ?_)⟩
  · have hk : k < (ns.map D.int).length := by
      have h := dec_t hc
      exact_mod_cast h
    refine ⟨_, atI_nat hk, np1 rfl, ?_⟩
    rw [List.getElem_map]
    exact rest _
  · exact rest _
theorem pure__law_all_signs (G : Gx) : Pure false 0 0 sp__law_all_signs (w__law_all_signs G) := by
  intro cells q eq hl hp
  obtain ⟨rfl, k⟩ := hp
  exact ⟨rfl, k⟩
end Pu
/-! ### the pure layer: comprehensions answered -/
namespace Pu
open PySem PySem.Spec PyProof.Rows L2 Lk Evl StX
section
variable {vs : List Nat} {wg : WG} {wt : WT} {we : WE} {ρ1 : Env} {q : D → Env → Prop}
/-- a comprehension whose inside changes no slot: item by item -/
theorem lc_fo {α : Type} {xs : List α} {g : α → D} (f : α → Option D) (hz : xs.length ≤ sizeLine)
    (ht : ∀ (a : α) (K1 : D → Env → Prop) (K2 : Env → Prop), a ∈ xs → (∀ y, f a = some y → K1 y (wipeE vs ρ1)) → (f a = none → K2 (wipeE vs ρ1)) →
      wg (g a) (wipeE vs ρ1) fun ρ2 => wt ρ2 (fun b ρ3 => if b = true then we ρ3 (fun s ρ4 => s.val' fun y => K1 y (wipeE vs ρ4)) eq0 else K2 (wipeE vs ρ3)) eq0)
    (hq : q (.lst (xs.filterMap f)) (backE vs ρ1 (wipeE vs ρ1))) (no : noOw vs ρ1 = true := by rfl) :
    LcOk vs wg wt we q (xs.map g) ρ1 := by
  refine ⟨no, fun i ys ρ' => ρ' = wipeE vs ρ1 ∧ ys = (xs.take i).filterMap f, ⟨rfl, rfl⟩, ?_, by rw [List.length_map]; exact hz, ?_⟩
  · rintro i d ys ρ' hd ⟨rfl, rfl⟩ _
    rw [List.getElem?_map] at hd
    cases e : xs[i]? with
    | none => rw [e] at hd; cases hd
    | some a =>
      rw [e] at hd
      cases hd
      refine ht a (fun y ρ4 => ρ4 = wipeE vs ρ1 ∧ (xs.take i).filterMap f ++ [y] = (xs.take (i + 1)).filterMap f) (fun ρ4 => ρ4 = wipeE vs ρ1 ∧ (xs.take i).filterMap f = (xs.take (i + 1)).filterMap f) (List.mem_of_getElem? e) (fun y hy => ⟨rfl, ?_⟩) (fun hn => ⟨rfl, ?_⟩)
      · rw [List.take_add_one, e, List.filterMap_append]; simp [hy]
      · rw [List.take_add_one, e, List.filterMap_append]; simp [hn]
  · rintro ys ρ' ⟨rfl, rfl⟩ _
    rw [List.length_map, List.take_length]
    exact hq
theorem fm_some {α : Type} (f : α → D) : ∀ xs : List α, xs.filterMap (fun a => some (f a)) = xs.map f
  | [] => rfl
  | x :: xs => by rw [List.filterMap_cons, List.map_cons, fm_some f xs]
/-- all items are kept -/
theorem lc_m {α : Type} {xs : List α} {g : α → D} (f : α → D) (hz : xs.length ≤ sizeLine)
    (ht : ∀ (a : α) (K1 : D → Env → Prop) (K2 : Env → Prop), a ∈ xs → K1 (f a) (wipeE vs ρ1) →
      wg (g a) (wipeE vs ρ1) fun ρ2 => wt ρ2 (fun b ρ3 => if b = true then we ρ3 (fun s ρ4 => s.val' fun y => K1 y (wipeE vs ρ4)) eq0 else K2 (wipeE vs ρ3)) eq0)
    (hq : q (.lst (xs.map f)) (backE vs ρ1 (wipeE vs ρ1))) (no : noOw vs ρ1 = true := by rfl) :
    LcOk vs wg wt we q (xs.map g) ρ1 :=
  lc_fo (fun a => some (f a)) hz (fun a K1 K2 ha k1 _ => ht a K1 K2 ha (k1 _ rfl)) (by rw [fm_some]; exact hq) no
theorem fm_flt {α : Type} (g : α → D) (p : α → Bool) : ∀ xs : List α, xs.filterMap (fun a => if p a = true then some (g a) else none) = (xs.filter p).map g
  | [] => rfl
  | x :: xs => by
    rw [List.filterMap_cons, List.filter_cons]
    by_cases h : p x = true
    · rw [if_pos h, if_pos h, List.map_cons, fm_flt g p xs]
    · rw [if_neg h, if_neg h, fm_flt g p xs]
/-- the items that a test lets -/
theorem lc_flt {α : Type} {xs : List α} {g : α → D} (p : α → Bool) (hz : xs.length ≤ sizeLine)
    (ht : ∀ (a : α) (K1 : D → Env → Prop) (K2 : Env → Prop), a ∈ xs → (p a = true → K1 (g a) (wipeE vs ρ1)) → (p a = false → K2 (wipeE vs ρ1)) →
      wg (g a) (wipeE vs ρ1) fun ρ2 => wt ρ2 (fun b ρ3 => if b = true then we ρ3 (fun s ρ4 => s.val' fun y => K1 y (wipeE vs ρ4)) eq0 else K2 (wipeE vs ρ3)) eq0)
    (hq : q (.lst ((xs.filter p).map g)) (backE vs ρ1 (wipeE vs ρ1))) (no : noOw vs ρ1 = true := by rfl) :
    LcOk vs wg wt we q (xs.map g) ρ1 :=
  lc_fo (fun a => if p a = true then some (g a) else none) hz (fun a K1 K2 ha k1 k2 => ht a K1 K2 ha (fun h => k1 _ (by rw [if_pos h])) (fun h => k2 (by rw [if_neg (by rw [h]; exact Bool.false_ne_true)]))) (by rw [fm_flt]; exact hq) no
theorem lc_fo' {ds : List D} (f : D → Option D) (hz : ds.length ≤ sizeLine)
    (ht : ∀ (a : D) (K1 : D → Env → Prop) (K2 : Env → Prop), a ∈ ds → (∀ y, f a = some y → K1 y (wipeE vs ρ1)) → (f a = none → K2 (wipeE vs ρ1)) →
      wg a (wipeE vs ρ1) fun ρ2 => wt ρ2 (fun b ρ3 => if b = true then we ρ3 (fun s ρ4 => s.val' fun y => K1 y (wipeE vs ρ4)) eq0 else K2 (wipeE vs ρ3)) eq0)
    (hq : q (.lst (ds.filterMap f)) (backE vs ρ1 (wipeE vs ρ1))) (no : noOw vs ρ1 = true := by rfl) :
    LcOk vs wg wt we q ds ρ1 := by
  have h := lc_fo (xs := ds) (g := id) f hz ht hq no
  rw [List.map_id] at h
  exact h
theorem lc_f {ds : List D} (f : D → D) (hz : ds.length ≤ sizeLine)
    (ht : ∀ (a : D) (K1 : D → Env → Prop) (K2 : Env → Prop), a ∈ ds → K1 (f a) (wipeE vs ρ1) →
      wg a (wipeE vs ρ1) fun ρ2 => wt ρ2 (fun b ρ3 => if b = true then we ρ3 (fun s ρ4 => s.val' fun y => K1 y (wipeE vs ρ4)) eq0 else K2 (wipeE vs ρ3)) eq0)
    (hq : q (.lst (ds.map f)) (backE vs ρ1 (wipeE vs ρ1))) (no : noOw vs ρ1 = true := by rfl) :
    LcOk vs wg wt we q ds ρ1 :=
  lc_fo' (fun a => some (f a)) hz (fun a K1 K2 ha k1 _ => ht a K1 K2 ha (k1 _ rfl)) (by rw [fm_some]; exact hq) no
end
theorem all_m {α : Type} {xs : List α} {p : α → Bool} {k : D → Prop} (h : k (.bl (xs.all p))) : dAll (.lst (xs.map fun a => .bl (p a))) k := by
  refine ⟨?_⟩
  have e : (xs.map fun a => D.bl (p a)) = (xs.map p).map D.bl := by rw [List.map_map]; rfl
  simp only [e, allB, optK]
  rw [List.all_map]; exact h
theorem any_m {α : Type} {xs : List α} {p : α → Bool} {k : D → Prop} (h : k (.bl (xs.any p))) : dAny (.lst (xs.map fun a => .bl (p a))) k := by
  refine ⟨?_⟩
  have e : (xs.map fun a => D.bl (p a)) = (xs.map p).map D.bl := by rw [List.map_map]; rfl
  simp only [e, allB, optK]
  rw [List.any_map]; exact h
theorem join_m {s : Str} {xs : List Str} {k : D → Prop} (h : (xs.map (·.length)).sum + xs.length * s.length ≤ 16777216) (hk : k (.str (Txt.join s xs))) : dJoin (.str s) (.lst (xs.map D.str)) k := by
  refine ⟨?_⟩
  simp only [allS, optK]
  exact ⟨h, hk⟩
theorem vals_cons {d : D} {ss : List Src} {k : List D → Prop} (h : ValsD ss fun es => k (d :: es)) : ValsD (.val d :: ss) k := ⟨h.ok⟩
theorem vals_star {ss : List Src} {k : List D → Prop} : ∀ {ds : List D}, ValsD ss (fun es => k (ds ++ es)) → ValsD (ds.map Src.val ++ ss) k
  | [], h => h
  | d :: ds, h => vals_cons (vals_star (ds := ds) (k := fun es => k (d :: es)) h)
theorem vals_all {k : List D → Prop} {ds : List D} (h : k ds) : ValsD (ds.map Src.val ++ []) k := vals_star (by
  refine ⟨?_⟩
  show k (ds ++ [])
  rw [List.append_nil]; exact h)
theorem gets_star {ρ : Env} {ss : List Src} {k : List D → Prop} : ∀ {ds : List D}, gets2 ρ ss (fun es => k (ds ++ es)) → gets2 ρ (ds.map Src.val ++ ss) k
  | [], h => h
  | d :: ds, h => gets_star (ds := ds) (k := fun es => k (d :: es)) h
theorem lenOk {α : Type} {l : List α} (h : Nat.ble l.length sizeLine = true := by rfl) : l.length ≤ sizeLine := Nat.le_of_ble_eq_true h
theorem ltOk {i n : Nat} (h : Nat.ble (i + 1) n = true := by rfl) : i < n := Nat.le_of_ble_eq_true h
theorem len_enum {ds : List D} : (enumD ds).length = ds.length := by unfold enumD; rw [List.length_mapIdx]
theorem ifF {c : Bool} {A B : Prop} (h : B) (e : c = false := by rfl) : (if c = true then A else B) := by rw [if_neg (by rw [e]; exact Bool.false_ne_true)]; exact h
theorem ifT {c : Bool} {A B : Prop} (h : A) (e : c = true := by rfl) : (if c = true then A else B) := by rw [if_pos e]; exact h
end Pu
/-! ### the pure layer: defs that ask no guards; lambdas -/
namespace Pu
open PySem PySem.Spec PyProof.Rows L2 Lk Evl StX
section
variable {G : Gx} {P : Program} {wd : World} {mg : Str → Option Value} {base : Heap} {k : Nat} {f : Addr} {fd : FuncData} {N ps : List Str} {x qual : Str} {st : Stmt} {psp : PSp} {new : Bool} {w : WS}
theorem fnPk (F : Fun G.K x qual st f fd) (S : FnScope N ps (defScope st)) (hn : ps.length ≤ N.length)
    (hb : ∀ (cdv : Value) (A : Around) (outer : List PySem.Env) (s : Shared) (H : Hp) (E : XK), Room k (A.deeper (envOfC qual (defScope st) s.heap.objs.size f cdv)) →
      PYs G (cxOf CX0 P wd G.K mg base N qual (defScope st) f cdv A outer s H E).nox W0 (defBody st) w)
    (hw : Pure new ps.length N.length psp w) : FnOk P wd G.K mg base CX0 (k + 1) f fd ps (spP G ps.length new psp) := by
  refine Fun.ok F S (fun vs H Q E h => h.1) (fun cdv A outer s H vs Q E hr h => ?_)
  obtain ⟨hl, M, cells, q, eq, nu, rp, hp, hq, he⟩ := h
  obtain ⟨t, pt, stt⟩ := hb cdv A outer s H E hr
  have hl' : vs.length ≤ N.length := by rw [hl]; exact hn
  have hc : cells.length = ps.length := by rw [rp.len, List.length_map, hl]
  exact ⟨t, pt, stt _ M _ _ H _ _ (reps_start rp hl') (hw cells q eq hc hp) (ends_ok rp hl' hq fun _ _ _ _ _ _ _ _ _ z => z)⟩
theorem fnXk (F : Fun G.K x qual st f fd) (S : FnScope N ps (defScope st)) (hn : ps.length ≤ N.length)
    (hb : ∀ (cdv : Value) (A : Around) (outer : List PySem.Env) (s : Shared) (H : Hp) (E : XK), Room k (A.deeper (envOfC qual (defScope st) s.heap.objs.size f cdv)) →
      PYs G (cxOf (L2.CX P wd) P wd G.K mg base N qual (defScope st) f cdv A outer s H E) (fun cls d _ H => E cls d H) (defBody st) w)
    (hw : PureX new ps.length N.length psp w) : FnOk P wd G.K mg base (L2.CX P wd) (k + 1) f fd ps (spP G ps.length new psp) := by
  refine Fun.okX F S (fun vs H Q E h => h.1) (fun cdv A outer s H vs Q E hr h => ?_)
  obtain ⟨hl, M, cells, q, eq, nu, rp, hp, hq, he⟩ := h
  obtain ⟨t, pt, stt⟩ := hb cdv A outer s H E hr
  have hl' : vs.length ≤ N.length := by rw [hl]; exact hn
  have hc : cells.length = ps.length := by rw [rp.len, List.length_map, hl]
  exact ⟨t, pt, stt _ M _ _ H _ _ (reps_start rp hl') (hw cells q eq hc hp) (ends_ok rp hl' hq fun C ns xs cs _ dx H' g hx z => he C ns xs cs dx H' g hx z)⟩
/-- a def whose code object is known by its place: it makes lambdas -/
theorem fnPc {c : Addr} (F : Fun G.K x qual st f fd) (hcd : fd.code = .ref c) (S : FnScope N ps (defScope st)) (hn : ps.length ≤ N.length)
    (hb : ∀ (A : Around) (outer : List PySem.Env) (s : Shared) (H : Hp) (E : XK), (A.deeper (envOfC qual (defScope st) s.heap.objs.size f (.ref c))).guards = some [] → Room k (A.deeper (envOfC qual (defScope st) s.heap.objs.size f (.ref c))) →
      PYs G (cxOf CX0 P wd G.K mg base N qual (defScope st) f (.ref c) A outer s H E).nox W0 (defBody st) w)
    (hw : Pure new ps.length N.length psp w) : FnG P wd G.K mg base CX0 (k + 1) f fd ps (spP G ps.length new psp) := by
  refine Fun.okGC F hcd S (fun vs H Q E h => h.1) (fun A outer s H vs Q E hga hr h => ?_)
  obtain ⟨hl, M, cells, q, eq, nu, rp, hp, hq, he⟩ := h
  obtain ⟨t, pt, stt⟩ := hb A outer s H E hga hr
  have hl' : vs.length ≤ N.length := by rw [hl]; exact hn
  have hc : cells.length = ps.length := by rw [rp.len, List.length_map, hl]
  exact ⟨t, pt, stt _ M _ _ H _ _ (reps_start rp hl') (hw cells q eq hc hp) (ends_ok rp hl' hq fun _ _ _ _ _ _ _ _ _ z => z)⟩
/-- the promise of a def that asks no guards -/
structure PFnK (G : Gx) (P : Program) (wd : World) (mg : Str → Option Value) (base : Heap) (CXc : CXT) (k : Nat) (x : Str) (n : Nat) (new : Bool) (psp : PSp) : Prop where
  ex : ∃ (f : Addr) (fd : FuncData) (ps : List Str), FnOk P wd G.K mg base CXc k f fd ps (spP G n new psp) ∧ mg x = some (.ref f) ∧ PySem.W.keepIn G.K (.ref f) = true ∧ Binds G.K fd ps []
  len : Len n psp
theorem PFnK.g {CXc : CXT} {n : Nat} (F : PFnK G P wd mg base CXc k x n new psp) : PFn G P wd mg base CXc k x n new psp := by
  obtain ⟨⟨f, fd, ps, h1, h2⟩, h3⟩ := F
  exact ⟨⟨f, fd, ps, .of h1, h2⟩, h3⟩
end
section
variable {X : Cx} {CXc : CXT} {k : Nat} {f : Addr} {fd : FuncData} {ps : List Str} {sp : Sp} {E : L2.St → XK} {x : Str} {p pos : Pos} {e : Expr} {es : List Expr} {t : TA}
theorem run_fnKS {pins : List (Addr × Obj)} {σ : L2.St} {H : Hp} {s : Shared} {Q : VK} {us : List Value} {vs : List V} (F : FnOk X.prog X.w X.K X.mg X.base CXc k f fd ps sp) (hr : Room k X.A) (hb : Binds X.K fd ps []) (hx : PassesAt CXc X σ (E σ))
    (I : Inv X pins σ H s) (r : L2.Vals vs us) (h : sp vs H Q (E σ)) : wpAny (model X.prog X.w) X.A (call (.ref f) us) (EP X pins σ Q) X.xe s := by
  have hl : (us ++ []).length = ps.length := by rw [List.append_nil, ← r.length]; exact F.len _ _ _ _ h
  have hb' := hb s us I.kIn hl
  rw [List.append_nil] at hb'
  refine wpAny_call (codeAny_mono (F.run X.A X.stack s H ⟨us, []⟩ us vs Q (E σ) hr I.env0 hb' r h) fun r s' hq => ?_)
  match r, hq with
  | .error e, hq => exact hx pins H s e s' I hq
  | .ok (.ret u), hq => exact I.after hq
theorem pe_callKS (F : FnOk X.prog X.w X.K X.mg X.base CXc k f fd ps sp) (hr : Room k X.A) (hg : Gl X x) (hm : X.mg x = some (.ref f)) (hk : PySem.W.keepIn X.K (.ref f) = true) (hb : Binds X.K fd ps []) (hx : ∀ σ, PassesAt CXc X σ (E σ))
    (ha : PA X (e :: es) t) (hdb : (x == ("__debug__" : Str)) = false := by decide) (he : starEach (e :: es) X.env = (false, eval e X.env) :: starEach es X.env := by rfl) (hpl : (backTo pos (starEach es X.env)).any (·.1) = false := by rfl) :
    PE X (.Call (.Name x p) (e :: es) [] pos) (tCallS sp E t) := by
  constructor
  intro pins s σ H Q I h
  refine wpAny_Call_Name_kw (ld_glob I hg hm (PySem.W.callWith_K (h₀ := X.base) I.ok.mod.kin hk (thn (ha.run pos pins s σ H _ I h) ?_) he hpl) hdb)
  rintro us s1 ⟨vs, H1, I1, r, q⟩
  exact ⟨I1.kIn, run_fnKS F hr hb (hx σ) I1 r q⟩
theorem pe_callKS0 (F : FnOk X.prog X.w X.K X.mg X.base CXc k f fd ps sp) (hr : Room k X.A) (hg : Gl X x) (hm : X.mg x = some (.ref f)) (hk : PySem.W.keepIn X.K (.ref f) = true) (hb : Binds X.K fd ps []) (hx : ∀ σ, PassesAt CXc X σ (E σ))
    (hdb : (x == ("__debug__" : Str)) = false := by decide) : PE X (.Call (.Name x p) [] [] pos) (tCallS sp E tNil) := by
  constructor
  intro pins s σ H Q I h
  exact wpAny_Call_Name_kw (ld_glob I hg hm (PySem.W.callWith_K0 I.kIn hk (run_fnKS (us := []) F hr hb (hx σ) I .nil h)) hdb)
end
section
variable {G : Gx} {X : Cx} {W : WX} {k n : Nat} {f : Addr} {fd : FuncData} {ps : List Str} {psp : PSp} {x : Str} {p pos : Pos} {e : Expr} {es : List Expr} {wa : WA}
theorem px_callPk (F : PFnK G X.prog X.w X.mg X.base CX0 k x n false psp) (hr : Room k X.A) (hg : Gl X x) (ha : PXA G X W (e :: es) wa) (hK : X.K = G.K := by rfl) (hdb : (x == ("__debug__" : Str)) = false := by decide)
    (he : starEach (e :: es) X.env = (false, eval e X.env) :: starEach es X.env := by rfl) (hpl : (backTo pos (starEach es X.env)).any (·.1) = false := by rfl) : PX G X W (.Call (.Name x p) (e :: es) [] pos) (wCallP psp wa) := by
  obtain ⟨⟨f, fd, ps, F1, hm, hk, hb⟩, hn⟩ := F
  obtain ⟨ta, pa, sa⟩ := ha
  rw [← hK] at F1 hk hb
  exact ⟨_, pe_callKS (E := fun σ c d H => W c d σ H) F1 hr hg hm hk hb (fun _ => pass00) pa hdb he hpl, se_callP sa (fun _ _ _ _ => rfl) hn⟩
theorem px_callPk0 (F : PFnK G X.prog X.w X.mg X.base CX0 k x n false psp) (hr : Room k X.A) (hg : Gl X x) (hK : X.K = G.K := by rfl) (hdb : (x == ("__debug__" : Str)) = false := by decide) : PX G X W (.Call (.Name x p) [] [] pos) (wCallP psp wNil) := by
  obtain ⟨⟨f, fd, ps, F1, hm, hk, hb⟩, hn⟩ := F
  rw [← hK] at F1 hk hb
  exact ⟨_, pe_callKS0 (E := fun σ c d H => W c d σ H) F1 hr hg hm hk hb (fun _ => pass00) hdb, se_callP (ta := tNil) (fun M ρ σ H q eq Q rp w k _ => k [] ρ [] H (.refl rp) .nil w) (fun _ _ _ _ => rfl) hn⟩
theorem px_callXk (F : PFnK G X.prog X.w X.mg X.base (L2.CX X.prog X.w) k x n false psp) (tk : Takes X W) (hr : Room k X.A) (hg : Gl X x) (ha : PXA G X W (e :: es) wa) (hK : X.K = G.K := by rfl) (hdb : (x == ("__debug__" : Str)) = false := by decide)
    (he : starEach (e :: es) X.env = (false, eval e X.env) :: starEach es X.env := by rfl) (hpl : (backTo pos (starEach es X.env)).any (·.1) = false := by rfl) : PX G X W (.Call (.Name x p) (e :: es) [] pos) (wCallP psp wa) := by
  obtain ⟨⟨f, fd, ps, F1, hm, hk, hb⟩, hn⟩ := F
  obtain ⟨ta, pa, sa⟩ := ha
  rw [← hK] at F1 hk hb
  exact ⟨_, pe_callKS (E := fun σ c d H => W c d σ H) F1 hr hg hm hk hb (fun σ => passAt tk σ) pa hdb he hpl, se_callP sa (fun _ _ _ _ => rfl) hn⟩
theorem pxn_callPk (F : PFnK G X.prog X.w X.mg X.base CX0 k x n true psp) (hr : Room k X.A) (hg : Gl X x) (ha : PXA G X W (e :: es) wa) (hK : X.K = G.K := by rfl) (hdb : (x == ("__debug__" : Str)) = false := by decide)
    (he : starEach (e :: es) X.env = (false, eval e X.env) :: starEach es X.env := by rfl) (hpl : (backTo pos (starEach es X.env)).any (·.1) = false := by rfl) : PXN G X W (.Call (.Name x p) (e :: es) [] pos) (nCallP psp wa) := by
  obtain ⟨⟨f, fd, ps, F1, hm, hk, hb⟩, hn⟩ := F
  obtain ⟨ta, pa, sa⟩ := ha
  rw [← hK] at F1 hk hb
  exact ⟨_, pe_callKS (E := fun σ c d H => W c d σ H) F1 hr hg hm hk hb (fun _ => pass00) pa hdb he hpl, sn_callP sa (fun _ _ _ _ => rfl) hn⟩
end
/-! ### lambdas -/
section
variable {G : Gx} {X : Cx} {W : WX} {M : List Addr} {ρ : Env} {σ : L2.St} {H H1 : Hp}
theorem go_tabs (r : Rep G M ρ σ H) (e : LamX.ExtN H H1) (t : LamX.Tabs G.tabs H1) : Go G M σ ρ H ρ H1 := by
  have fe : Ex (Fz M H) (Fz M H1) := fun b o h => let ⟨n, q, k⟩ := fz_of3 h; fz_in n (e b o q k) k
  have oe : ∀ {a d}, Own G M H a d → Own G M H1 a d := fun {a d} h => by
    cases d <;> first | exact h.elim | skip
    · obtain ⟨xs, h1, h2⟩ := h; exact ⟨xs, e _ _ h1 (fun _ z => nomatch z), h2.ex fe⟩
    · obtain ⟨kvs, h1, h2, h3⟩ := h; exact ⟨kvs, e _ _ h1 (fun _ z => nomatch z), h2.ex fe, h3.ex fe⟩
    · obtain ⟨dx, fs, h1, h2, h3⟩ := h; exact ⟨dx, fs, e _ _ h1 (fun _ z => nomatch z), h2, h3.ex fe⟩
  refine ⟨⟨r.len, fun i d h => ?_, fun i d h => ?_, r.inj, fun a ha => ?_, t, r.tm⟩, .refl _, fun b o h _ k => e b o h k⟩
  · obtain ⟨v, h1, h2⟩ := r.fz i d h; exact ⟨v, h1, h2.ex fe⟩
  · obtain ⟨a, h1, h2, h3⟩ := r.ow i d h; exact ⟨a, h1, h2, oe h3⟩
  · obtain ⟨o, ho, k | k⟩ := r.trk a ha
    · exact ⟨o, e _ _ ho k, .inl k⟩
    · obtain ⟨p, hp, rfl⟩ := k
      obtain ⟨ps, h1, _⟩ := t p hp
      exact ⟨_, h1, .inr ⟨p, hp, rfl⟩⟩
/-- what a def that calls its lambda makes of it: its two handlers' words, the word of none -/
def wLam2 (G : Gx) (C1 r1 C2 r2 r3 : Str) (wb : WE) : WE := fun ρ q _ => wb ρ (fun _ ρ1 => q (.val (.str r3)) ρ1)
  fun C _ _ ρ1 => ∃ b, G.sub C C1 = some b ∧ (b = true → q (.val (.str r1)) ρ1) ∧ (b = false → ∃ b2, G.sub C C2 = some b2 ∧ b2 = true ∧ q (.val (.str r2)) ρ1)
theorem px_lam2 {x a q0 e1 e2 r1 r2 r3 C1 C2 : Str} {st : Stmt} {g c Pt : Addr} {fd : FuncData} {k : Nat} {Ng : List Str} {params : Arguments} {body : Expr} {scope : Scope} {p lpos pos : Pos} {wb : WE} {j1 j2 j3 : Nat} {p1 p2 p3 p4 p5 p6 p7 p8 p9 p10 p11 p12 p13 p14 : Pos}
    (F : Fun X.K x x st g fd) (hg : Gl X x) (hm : X.mg x = some (.ref g)) (hb : L2.Binds X.K fd [a] []) (Sg : FnScope Ng [a] (defScope st)) (hNg : Ng[0]? = some a) (hva : Vis (defScope st) a) (hq : X.env.qual = q0)
    (hst : defBody st = [.Try [.Expr (.Call (.Name a p1) [] [] p2) p3] [.ExceptHandler (some (.Name e1 p4)) none [.Return (some (.Constant (.str r1) j1 p5)) p6] p7, .ExceptHandler (some (.Name e2 p8)) none [.Return (some (.Constant (.str r2) j2 p9)) p10] p11] [] [] p12, .Return (some (.Constant (.str r3) j3 p13)) p14])
    (hg1 : (defScope st).names.lookup e1 = some .globalImplicit) (hm1 : X.mg e1 = some (.ref (G.cl C1))) (hg2 : (defScope st).names.lookup e2 = some .globalImplicit) (hm2 : X.mg e2 = some (.ref (G.cl C2))) (hd1 : (e1 == ("__debug__" : Str)) = false) (hd2 : (e2 == ("__debug__" : Str)) = false)
    (h0 : ∀ f : Addr, (L2.start Ng [V.ref f])[0]? = some (some (V.ref f)))
    (TB : LamX.TabB X.base X.mg c Pt) (hcode : X.env.code = .ref c) (hmT : (Pt, q0 ++ "<lambda>") ∈ G.tabs) (hu : ∀ p ∈ G.tabs, p.1 = Pt → p.2 = q0 ++ "<lambda>") (hr : Room (k + 2) X.A) (L : LamX.LamS X.env.scope scope) (hdef : defaultsOf params X.env = ([], []))
    (hbind : ∀ (q : Str) (cl : List (Str × Addr)) (pm cv ctv : Value), bindArgs (PySem.W.kla_fn "<lambda>" q params body scope cl pm cv ctv) ⟨[], []⟩ = pure [])
    (hbody : ∀ (A : Around) (outer : List PySem.Env) (s : Shared) (H : Hp) (E : XK) (f c' : Addr), Room k (A.deeper (LamX.lamEnv X scope s.heap.objs.size f c')) → PX G (LamX.lamCx X A outer s H E scope f c') (fun cls d _ H => E cls d H) body wb)
    (hK : X.K = G.K := by rfl) (hdb : (x == ("__debug__" : Str)) = false := by decide) (hd : (a == ("__debug__" : Str)) = false := by decide) (hcd : (a == ("__classdict__" : Str)) = false := by decide) :
    PX G X W (.Call (.Name x p) [.Lambda params body scope lpos] [] pos) (wLam2 G C1 r1 C2 r2 r3 wb) := by
  refine ⟨_, pe_lamF (T := G.tabs) (t := fun E => tOf G (fun cls d _ H => E cls d H) wb) (k := k) F hg hm hb Sg hNg hva hq (fun cdv => by rw [hst]; exact word_gives (C1 := G.cl C1) (C2 := G.cl C2) hg1 hm1 hg2 hm2 hd1 hd2 h0) TB hcode hmT hu hr L hdef hbind
    (fun A outer s H E f c' h => (hbody A outer s H E f c' h).can) hdb hd hcd, fun M ρ σ H q eq Q rp w k _ => ⟨rp.tab, fun H1 e1 t1 => ?_⟩⟩
  have g1 := go_tabs rp e1 t1
  refine ⟨M, ρ, _, _, g1.rep, w, fun s ρ' v H' g _ qq => k (.val (.str r3)) ρ' _ H' (g1.trans g) (R.str r3) qq, fun C ns vs ρ' dx H' g hx hh => ?_⟩
  obtain ⟨b, b1, b2, b3⟩ := hh
  refine ⟨b, by rw [hK]; exact G.hsub _ _ _ b1, fun hb' => k (.val (.str r1)) ρ' _ H' (g1.trans g) (R.str r1) (b2 hb'), fun hb' => ?_⟩
  obtain ⟨c, c1, c2, c3⟩ := b3 hb'
  exact ⟨c, by rw [hK]; exact G.hsub _ _ _ c1, fun _ => k (.val (.str r2)) ρ' _ H' (g1.trans g) (R.str r2) c3, fun z => by rw [c2] at z; cases z⟩
end
end Pu
/-! ### the pure layer: a new container beside a value; a new container handed to a def -/
namespace Pu
open PySem PySem.Spec PyProof.Rows L2 Lk Evl StX
section
variable {G : Gx} {X : Cx} {W : WX} {M : List Addr} {ρ ρ1 ρ2 : Env} {σ : L2.St} {H H1 H2 : Hp} {e a b : Expr} {es : List Expr} {pos p : Pos} {wn : WN} {wa : WA} {wb we : WE}
theorem Own.keep {l : Addr} {d : D} (h : Own G M H l d) (hl : H1 l = H l) (e : Ex (Fz M H) (Fz M H1)) : Own G M H1 l d := by
  cases d <;> first | exact h.elim | skip
  · obtain ⟨xs, h1, h2⟩ := h; exact ⟨xs, by rw [hl]; exact h1, h2.ex e⟩
  · obtain ⟨kvs, h1, h2, h3⟩ := h; exact ⟨kvs, by rw [hl]; exact h1, h2.ex e, h3.ex e⟩
  · obtain ⟨dx, fs, h1, h2, h3⟩ := h; exact ⟨dx, fs, by rw [hl]; exact h1, h2, h3.ex e⟩
/-- what is evaluated while a new container stands aside -/
theorem go_aside {l : Addr} {d : D} (n : l ∉ M) (rp : Rep G M ρ1 σ H1) (ow : Own G (l :: M) H1 l d) (g : Go G (l :: M) σ ρ1 H1 ρ2 H2) : Go G M σ ρ1 H1 ρ2 H2 ∧ Own G (l :: M) H2 l d := by
  have nS : ¬ Seen ρ1 σ l := fun z => n (rp.seenM z)
  have nS2 : ¬ Seen ρ2 σ l := fun z => nS (g.kin.seen.mp z)
  obtain ⟨o, ho, nt, ne⟩ := ow.pl
  have h2 := g.kp l o ho nS nt
  have fe : Ex (Fz (l :: M) H1) (Fz (l :: M) H2) := fun b u h => by
    obtain ⟨m, q, t⟩ := fz_of3 h
    exact fz_in m (g.kp b u q (fun z => m (List.mem_cons_of_mem _ (rp.seenM z))) t) t
  exact ⟨⟨rep_less g.rep nS2 ⟨o, h2, nt, ne⟩, g.kin, g.kp⟩, ow.keep (by rw [h2, ho]) fe⟩
theorem thr_aside {l : Addr} {d : D} {eq : EQ} (n : l ∉ M) (rp : Rep G M ρ1 σ H1) (ow : Own G (l :: M) H1 l d) (th : Thr G M W σ ρ1 H1 eq) : Thr G (l :: M) W σ ρ1 H1 eq := fun C ns vs ρ' dx H' g x z => by
  obtain ⟨g', _⟩ := go_aside n rp ow g
  refine th C ns vs ρ' dx H' g' ?_ z
  have an : Ex (Fz (l :: M) H') (Fz M H') := fz_anti fun b hb => List.mem_cons_of_mem _ hb
  cases dx with
  | none => exact x
  | some d => obtain ⟨fs, x1, x2, x3⟩ := x; exact ⟨fs, an _ _ x1, x2, x3.ex an⟩
/-- x, y = a new container, a value -/
def wParN (i j : Nat) (wn : WN) (wb : WE) : WS := fun P ρ => wn ρ (fun d ρ1 => wb ρ1 (fun s ρ2 => s.val' fun y => i ∉ P.pins ∧ j ∉ P.pins ∧ i < ρ2.length ∧ P.nx ((List.set ρ2 i (Cell.ow d)).set j (.fz y))) P.ex) P.ex
theorem py_parN (i j : Nat) {x y : Str} {px py pt : Pos} {kt k2 pt2} (hc : X.calm = true) (hN : X.N.Nodup) (hi : X.N[i]? = some x) (hj : X.N[j]? = some y) (hij : i ≠ j)
    (hx : X.env.scope.names.lookup x = some .local) (hy : X.env.scope.names.lookup y = some .local) (ha : PXN G X W a wn) (hb : PX G X W b wb)
    (hw : swappedStores [.Tuple [.Name x px, .Name y py] kt pt] (.Tuple [a, b] k2 pt2) X.env = pure (some [x, y]) := by rfl)
    (hs : swapsWithSole [.Tuple [.Name x px, .Name y py] kt pt] (.Tuple [a, b] k2 pt2) pos.line X.env = pure false := by rfl)
    (h1 : starEach [a, b] X.env = (false, eval a X.env) :: starEach [b] X.env := by rfl) (h2 : starEach [b] X.env = (false, eval b X.env) :: starEach [] X.env := by rfl) :
    PY G X W (.Assign [.Tuple [.Name x px, .Name y py] kt pt] (.Tuple [a, b] k2 pt2) pos) (wParN i j wn wb) := by
  obtain ⟨ta, pa, sa⟩ := ha
  obtain ⟨tb, pb, sb⟩ := hb
  refine ⟨_, ps_par hc hN hi hj hij hx hy (pa_cons pa (pa_cons pb pa_nil h2) h1) hw hs, fun c M ρ σ H Z P r w k => ?_⟩
  refine sa M ρ σ H _ _ _ r.rep w (fun d ρ1 l H1 g n h0 rp ow q => ?_) (k.thr r)
  have r1 := r.go g
  refine sb (l :: M) ρ1 σ H1 _ _ _ rp q (fun s ρ2 u H2 g2 rs q2 => ?_) (thr_aside n g.rep ow ((k.thr r).go g))
  obtain ⟨g2', ow2⟩ := go_aside n g.rep ow g2
  obtain ⟨yd, ry, p1, p2, p3, q3⟩ := rs.val' q2
  refine ⟨_, _, rfl, ?_⟩
  have r2 := r1.go g2'
  have hi' : i < σ.length := by rw [← g2.rep.len]; exact p3
  have ro := r2.own_set n g2.rep ow2 (r.old l h0) (by rw [← k.pins]; exact p1) hi' fun f hf => by
    refine (r.fr f hf).trans fun b o h => ?_
    obtain ⟨nb, e, t⟩ := fz_of3 h
    refine fz_in (fun z => ?_) (g2.kp b o (g.kp b o e (fun z => nb (r.rep.seenM z)) t) (fun z => nb (g.rep.seenM z)) t) t
    rcases List.mem_cons.mp z with z | z
    · rw [z] at e; exact h0 o e t
    · exact nb z
  exact k.nx (l :: M) _ _ _ (ro.diff (is := [j]) (rep_set ro.rep ry) (Ex.refl _) diff_set (by intro m hm; rw [List.mem_singleton.mp hm, ← k.pins]; exact p2)) q3
end
end Pu
/-! ### the pure layer: comprehensions that roll the dice -/
namespace Pu
open PySem PySem.Spec PyProof.Rows L2 Lk Evl StX
section
variable {vs : List Nat} {wg : WG} {wt : WT} {we : WE} {ρ1 tl' : Env} {q : D → Env → Prop} {d0 : D}
theorem lc_dice {α : Type} {xs : List α} {g : α → D} (S : α → D → Prop) (hw : wipeE vs ρ1 = .ow d0 :: tl') (hd0 : isDice d0) (hz : xs.length ≤ sizeLine)
    (ht : ∀ (a : α) (d : D) (K1 : D → Env → Prop) (K2 : Env → Prop), a ∈ xs → isDice d → (∀ d' y, isDice d' → S a y → K1 y (.ow d' :: tl')) →
      wg (g a) (.ow d :: tl') fun ρ2 => wt ρ2 (fun b ρ3 => if b = true then we ρ3 (fun s ρ4 => s.val' fun y => K1 y (wipeE vs ρ4)) eq0 else K2 (wipeE vs ρ3)) eq0)
    (hq : ∀ ys d', isDice d' → ys.length = xs.length → (∀ (i : Nat) (a : α) (y : D), xs[i]? = some a → ys[i]? = some y → S a y) → q (.lst ys) (backE vs ρ1 (.ow d' :: tl')))
    (no : noOw vs ρ1 = true := by rfl) : LcOk vs wg wt we q (xs.map g) ρ1 := by
  refine ⟨no, fun i ys ρ' => (∃ d, isDice d ∧ ρ' = .ow d :: tl') ∧ (i ≤ xs.length → ys.length = i) ∧ ∀ (j : Nat) (a : α) (y : D), xs[j]? = some a → ys[j]? = some y → S a y, ⟨⟨d0, hd0, hw⟩, fun _ => rfl, fun j a y _ h => by simp at h⟩, ?_, by rw [List.length_map]; exact hz, ?_⟩
  · rintro i d ys ρ' hd ⟨⟨dd, hdd, rfl⟩, hl, hs⟩ _
    rw [List.getElem?_map] at hd
    cases e : xs[i]? with
    | none => rw [e] at hd; cases hd
    | some a =>
      rw [e] at hd
      cases hd
      have hi := (List.getElem?_eq_some_iff.mp e).1
      have hli := hl (by omega)
      refine ht a dd (fun y ρ4 => (∃ d, isDice d ∧ ρ4 = .ow d :: tl') ∧ (i + 1 ≤ xs.length → (ys ++ [y]).length = i + 1) ∧ ∀ (j : Nat) (a : α) (y' : D), xs[j]? = some a → (ys ++ [y])[j]? = some y' → S a y') (fun ρ4 => (∃ d, isDice d ∧ ρ4 = .ow d :: tl') ∧ (i + 1 ≤ xs.length → ys.length = i + 1) ∧ ∀ (j : Nat) (a : α) (y' : D), xs[j]? = some a → ys[j]? = some y' → S a y') (List.mem_of_getElem? e) hdd fun d' y hd' hy => ⟨⟨d', hd', rfl⟩, fun _ => by rw [List.length_append, hli]; rfl, fun j b y' h1 h2 => ?_⟩
      by_cases hj : j < i
      · rw [List.getElem?_append_left (by omega)] at h2
        exact hs j b y' h1 h2
      · have hj2 : j = i := by
          have := (List.getElem?_eq_some_iff.mp h2).1
          rw [List.length_append, hli] at this
          simp at this
          omega
        subst hj2
        rw [List.getElem?_append_right (by omega), hli, Nat.sub_self] at h2
        cases h2
        rw [e] at h1
        cases h1
        exact hy
  · rintro ys ρ' ⟨⟨d, hd, rfl⟩, hl, hs⟩ _
    rw [List.length_map] at hl
    exact hq ys d hd (hl (Nat.le_refl _)) hs
end
/-- texts, one by one -/
theorem strs_of {ys : List D} {p : Str → Prop} (h : ∀ y ∈ ys, ∃ z, y = .str z ∧ p z) : ∃ zs : List Str, ys = zs.map D.str ∧ ∀ z ∈ zs, p z := by
  induction ys with
  | nil => exact ⟨[], rfl, fun _ h => nomatch h⟩
  | cons y ys ih =>
    obtain ⟨z, rfl, hz⟩ := h y List.mem_cons_self
    obtain ⟨zs, rfl, hzs⟩ := ih fun y hy => h y (List.mem_cons_of_mem _ hy)
    exact ⟨z :: zs, rfl, fun x hx => by
      rcases List.mem_cons.mp hx with rfl | hx
      · exact hz
      · exact hzs x hx⟩
theorem all_of {α : Type} {xs : List α} {ys : List D} {S : D → Prop} (hl : ys.length = xs.length) (h : ∀ (i : Nat) (a : α) (y : D), xs[i]? = some a → ys[i]? = some y → S y) : ∀ y ∈ ys, S y := fun y hy => by
  obtain ⟨i, hi⟩ := List.getElem?_of_mem hy
  have := (List.getElem?_eq_some_iff.mp hi).1
  exact h i (xs[i]'(by omega)) y (List.getElem?_eq_getElem _) hi
end Pu
/-! the end of a law: a Gx from a written part, a dict of numbers, the law's entry -/
namespace Pu
open PySem PySem.Spec PyProof.Rows L2 Lk Evl StX
def clOf (l : List (Str × Addr)) (x : Str) : Addr := (l.lookup x).getD 0
def subOf (l : List ((Str × Str) × Bool)) (x y : Str) : Option Bool := l.lookup (x, y)
theorem lookup_mem {α β : Type} [BEq α] [LawfulBEq α] {k : α} {v : β} : ∀ {l : List (α × β)}, l.lookup k = some v → (k, v) ∈ l
  | [], h => by cases h
  | (k', v') :: r, h => by
    rw [List.lookup_cons] at h
    split at h
    · rename_i e
      cases h
      rw [eq_of_beq e]
      exact List.mem_cons_self
    · exact List.mem_cons_of_mem _ (lookup_mem h)
theorem gx_ex (K : PySem.W.Frag) (cs : List (Str × Addr)) (es : List ((Str × Str) × Bool)) (tabs : List (Addr × Str)) (he : ∀ p ∈ es, PySem.W.exmOne K (.ref (clOf cs p.1.1)) (.ref (clOf cs p.1.2)) = some p.2) :
    ∃ G : Gx, G.K = K ∧ G.tabs = tabs ∧ (∀ x, G.cl x = clOf cs x) ∧ ∀ x y, G.sub x y = subOf es x y :=
  ⟨⟨K, clOf cs, subOf es, tabs, fun _ _ _ h => he _ (lookup_mem h)⟩, rfl, rfl, fun _ => rfl, fun _ _ => rfl⟩
/-- a dict of the top, its keys texts, its values numbers -/
def kvOf (e : DictEntry) : Option (Str × Int × Int) := match e.key, e.val with
  | .str x _, .int i _ => some (x, e.hash, i)
  | _, _ => none
def dicI (K : PySem.W.Frag) (a : Addr) : Option (List (Option (Str × Int × Int))) := match K.lookup a with
  | some ⟨.type c, none, .dict es _, sl⟩ => bif c == "dict" && (sl.isEmpty && !(a == sysModules)) then some (es.toList.map kvOf) else none
  | _ => none
def kvsIn (P : Params) (ks : List (Str × Int)) : List (Option (Str × Int × Int)) := ks.map fun k => some (k.1, PyData.keyHash P k.1, k.2)
theorem kvs_ok {P : Params} : ∀ {l : List DictEntry} {ks : List (Str × Int)}, l.map kvOf = kvsIn P ks →
    PySem.W.KeysLit P l ∧ ∀ z, RelO ((ks.lookup z).map V.int) ((l.find? fun e => Value.isStrOf z e.key).map (·.val))
  | [], [], _ => ⟨trivial, fun z => by unfold RelO; trivial⟩
  | [], _ :: _, h => by cases h
  | _ :: _, [], h => by cases h
  | e :: r, (k, i) :: ks, h => by
    have h1 : kvOf e :: r.map kvOf = some (k, PyData.keyHash P k, i) :: kvsIn P ks := h
    injection h1 with h2 h3
    obtain ⟨b1, b2⟩ := kvs_ok h3
    unfold kvOf at h2
    split at h2
    · rename_i x t j u q q2
      obtain ⟨h4, h5⟩ := Prod.mk.inj (Option.some.inj h2)
      obtain ⟨h6, h7⟩ := Prod.mk.inj h5
      subst h4
      subst h7
      refine ⟨⟨⟨_, t, q, h6⟩, b1⟩, fun z => ?_⟩
      have e1 : Value.isStrOf z e.key = (x == z) := by rw [q]; rfl
      rw [List.find?_cons, List.lookup_cons, e1]
      by_cases hz : x = z
      · subst hz
        rw [beq_self_eq_true]
        show RelO (some (V.int j)) (some e.val)
        rw [q2]
        exact ⟨_, rfl⟩
      · have f1 : (x == z) = false := beq_eq_false_iff_ne.mpr hz
        have f2 : (z == x) = false := beq_eq_false_iff_ne.mpr (Ne.symm hz)
        rw [f1, f2]
        exact b2 z
    · cases h2
theorem kmapd_of {G : Gx} {wd : World} {a : Addr} {f : Str → Option D} (ks : List (Str × Int)) (h : dicI G.K a = some (kvsIn wd.params ks)) (hf : ∀ z, f z = (ks.lookup z).map D.int) : KMapD G wd a f := by
  refine ⟨fun z => (ks.lookup z).map V.int, ?_, fun z H => ?_⟩
  · unfold dicI at h
    split at h
    · rename_i c es n sl e
      cases hc : c == "dict" && (sl.isEmpty && !(a == sysModules)) with
      | false => rw [hc] at h; cases h
      | true =>
        rw [hc] at h
        obtain ⟨h1, h2⟩ := Bool.and_eq_true_iff.mp hc
        obtain ⟨h3, h4⟩ := Bool.and_eq_true_iff.mp h2
        obtain rfl : c = "dict" := eq_of_beq h1
        obtain rfl : sl = #[] := Array.isEmpty_iff.mp h3
        obtain ⟨b1, b2⟩ := kvs_ok (Option.some.inj h)
        refine ⟨es, n, e, b1, by revert h4; cases a == sysModules <;> simp, fun z => ?_⟩
        have b3 := b2 z
        unfold findBy
        rw [← Array.find?_toList]
        exact b3
    · cases h
  · rw [hf]
    show R G H (((ks.lookup z).map V.int).getD .non) (((ks.lookup z).map D.int).getD .non)
    cases ks.lookup z with
    | none => exact .non
    | some i => exact .int i
theorem rall_ints {G : Gx} {H : Hp} : ∀ ns : List Int, RAll G H (ns.map V.int) (ns.map D.int)
  | [] => .nil
  | n :: r => .cons (.int n) (rall_ints r)
theorem entry_ok {G : Gx} {H : Hp} {a : Addr} {ns : List Int} {psp : PSp} {cs : List (Addr × Addr)} (hS : SqL G.K H a (ns.map V.int)) (ht : ∀ p ∈ cs, H p.2 = some (.tbl #[])) (hc : G.tabs.map (·.1) = cs.map (·.2)) (hp : psp [.fz (.sl (ns.map D.int))] (fun d _ => d = .bl true) fun _ _ _ _ => False) :
    spP G 1 false psp [.ref a] H (fun v _ => v = .bl true) fun _ _ _ => False := by
  have htb : ∀ b ∈ G.tabs.map (·.1), H b = some (.tbl #[]) := fun b hb => by
    rw [hc] at hb
    obtain ⟨p, h1, rfl⟩ := List.mem_map.mp hb
    exact ht p h1
  refine ⟨rfl, G.tabs.map (·.1), _, _, _, ?_, ?_, hp, ?_, ?_⟩
  · intro c hc'
    rw [List.mem_singleton.mp hc']
    exact fun z => by cases z
  · have hf : SqL G.K (Fz (G.tabs.map (·.1)) H) a (ns.map V.int) := by
      rcases hS with h | h
      · refine .inl ?_
        have nm : a ∉ G.tabs.map (·.1) := fun hb => by
          have e := htb a hb
          rcases h with h | ⟨o, h⟩
          · rw [h] at e
            cases e
          · rw [h] at e
            cases e
        rcases h with h | ⟨o, h⟩
        · exact .inl (fz_in nm h)
        · exact .inr ⟨o, fz_in nm h⟩
      · exact .inr h
    refine ⟨rfl, ?_, ?_, ?_, ?_, ?_, ?_⟩
    · intro i d h
      cases i with
      | zero =>
        cases h
        exact ⟨.ref a, rfl, .sl hf (rall_ints ns)⟩
      | succ j => cases h
    · intro i d h
      cases i with
      | zero => cases h
      | succ j => cases h
    · intro i j b d d' h
      cases i with
      | zero => cases h
      | succ j => cases h
    · intro b hb
      obtain ⟨p, h1, rfl⟩ := List.mem_map.mp hb
      exact ⟨_, htb _ hb, .inr ⟨p, h1, rfl⟩⟩
    · exact fun p hp => LamX.TabS.nil (htb _ (List.mem_map.mpr ⟨p, hp, rfl⟩))
    · exact fun p hp => List.mem_map.mpr ⟨p, hp, rfl⟩
  · intro d cs v H' g ro e
    subst e
    cases (show R G _ v (.bl true) from ro)
    rfl
  · intro C ns' xs cs dx H' g x e
    exact e
end Pu
namespace Pu
open PySem PySem.Spec PyProof.Rows L2 Lk Evl StX

def top (i : Nat) : Stmt := PySem.Challenge.pw_cleandress_k76_histories_there_and_back.main.body.getD i (.Pass ⟨0, 0, 0, 0⟩)
abbrev s_ParseError___init__ : Stmt := (inClass (top 4) 0)
abbrev nm_ParseError___init__ : List Str := ["self", "number"]
abbrev ps_ParseError___init__ : List Str := ["self", "number"]
theorem sc_ParseError___init__ : FnScope nm_ParseError___init__ ps_ParseError___init__ (defScope s_ParseError___init__) := ⟨rfl, rfl, rfl, by decide +kernel, rfl, by decide +kernel, by decide +kernel⟩
abbrev s_is_text : Stmt := (top 9)
abbrev nm_is_text : List Str := ["value", "sign"]
abbrev ps_is_text : List Str := ["value"]
theorem sc_is_text : FnScope nm_is_text ps_is_text (defScope s_is_text) := ⟨rfl, rfl, rfl, by decide +kernel, rfl, by decide +kernel, by decide +kernel⟩
abbrev s_is_name : Stmt := (top 10)
abbrev nm_is_name : List Str := ["value", "letter"]
abbrev ps_is_name : List Str := ["value"]
theorem sc_is_name : FnScope nm_is_name ps_is_name (defScope s_is_name) := ⟨rfl, rfl, rfl, by decide +kernel, rfl, by decide +kernel, by decide +kernel⟩
abbrev s_is_path : Stmt := (top 13)
abbrev nm_is_path : List Str := ["value"]
abbrev ps_is_path : List Str := ["value"]
theorem sc_is_path : FnScope nm_is_path ps_is_path (defScope s_is_path) := ⟨rfl, rfl, rfl, by decide +kernel, rfl, by decide +kernel, by decide +kernel⟩
abbrev s_are_texts : Stmt := (top 21)
abbrev nm_are_texts : List Str := ["value", "text"]
abbrev ps_are_texts : List Str := ["value"]
theorem sc_are_texts : FnScope nm_are_texts ps_are_texts (defScope s_are_texts) := ⟨rfl, rfl, rfl, by decide +kernel, rfl, by decide +kernel, by decide +kernel⟩
abbrev s_is_second : Stmt := (top 22)
abbrev nm_is_second : List Str := ["word", "value"]
abbrev ps_is_second : List Str := ["word", "value"]
theorem sc_is_second : FnScope nm_is_second ps_is_second (defScope s_is_second) := ⟨rfl, rfl, rfl, by decide +kernel, rfl, by decide +kernel, by decide +kernel⟩
abbrev s_is_deed : Stmt := (top 23)
abbrev nm_is_deed : List Str := ["value"]
abbrev ps_is_deed : List Str := ["value"]
theorem sc_is_deed : FnScope nm_is_deed ps_is_deed (defScope s_is_deed) := ⟨rfl, rfl, rfl, by decide +kernel, rfl, by decide +kernel, by decide +kernel⟩
abbrev s_is_history : Stmt := (top 24)
abbrev nm_is_history : List Str := ["value", "deed"]
abbrev ps_is_history : List Str := ["value"]
theorem sc_is_history : FnScope nm_is_history ps_is_history (defScope s_is_history) := ⟨rfl, rfl, rfl, by decide +kernel, rfl, by decide +kernel, by decide +kernel⟩
abbrev s_is_text_word : Stmt := (top 28)
abbrev nm_is_text_word : List Str := ["word"]
abbrev ps_is_text_word : List Str := ["word"]
theorem sc_is_text_word : FnScope nm_is_text_word ps_is_text_word (defScope s_is_text_word) := ⟨rfl, rfl, rfl, by decide +kernel, rfl, by decide +kernel, by decide +kernel⟩
abbrev s_deed_words : Stmt := (top 29)
abbrev nm_deed_words : List Str := ["deed", "word", "parts", "text", "filling"]
abbrev ps_deed_words : List Str := ["deed"]
theorem sc_deed_words : FnScope nm_deed_words ps_deed_words (defScope s_deed_words) := ⟨rfl, rfl, rfl, by decide +kernel, rfl, by decide +kernel, by decide +kernel⟩
abbrev s_write_history : Stmt := (top 30)
abbrev nm_write_history : List Str := ["history", "deed"]
abbrev ps_write_history : List Str := ["history"]
theorem sc_write_history : FnScope nm_write_history ps_write_history (defScope s_write_history) := ⟨rfl, rfl, rfl, by decide +kernel, rfl, by decide +kernel, by decide +kernel⟩
abbrev s_deed_in : Stmt := (top 31)
abbrev nm_deed_in : List Str := ["line", "word", "rest", "texts", "one"]
abbrev ps_deed_in : List Str := ["line"]
theorem sc_deed_in : FnScope nm_deed_in ps_deed_in (defScope s_deed_in) := ⟨rfl, rfl, rfl, by decide +kernel, rfl, by decide +kernel, by decide +kernel⟩
abbrev s_read_history : Stmt := (top 32)
abbrev nm_read_history : List Str := ["lines", "rows", "found", "number", "line", "deed"]
abbrev ps_read_history : List Str := ["lines"]
theorem sc_read_history : FnScope nm_read_history ps_read_history (defScope s_read_history) := ⟨rfl, rfl, rfl, by decide +kernel, rfl, by decide +kernel, by decide +kernel⟩
abbrev s__law_dice : Stmt := (top 34)
abbrev nm__law_dice : List Str := ["script", "at", "cell", "great", "mixed"]
abbrev ps__law_dice : List Str := ["script", "at"]
theorem sc__law_dice : FnScope nm__law_dice ps__law_dice (defScope s__law_dice) := ⟨rfl, rfl, rfl, by decide +kernel, rfl, by decide +kernel, by decide +kernel⟩
abbrev s__law_roll : Stmt := (top 35)
abbrev nm__law_roll : List Str := ["dice", "total", "found", "one", "two"]
abbrev ps__law_roll : List Str := ["dice", "total"]
theorem sc__law_roll : FnScope nm__law_roll ps__law_roll (defScope s__law_roll) := ⟨rfl, rfl, rfl, by decide +kernel, rfl, by decide +kernel, by decide +kernel⟩
abbrev s__law_one_of : Stmt := (top 36)
abbrev nm__law_one_of : List Str := ["dice", "items"]
abbrev ps__law_one_of : List Str := ["dice", "items"]
theorem sc__law_one_of : FnScope nm__law_one_of ps__law_one_of (defScope s__law_one_of) := ⟨rfl, rfl, rfl, by decide +kernel, rfl, by decide +kernel, by decide +kernel⟩
abbrev s__law_all_signs : Stmt := (top 37)
abbrev nm__law_all_signs : List Str := []
abbrev ps__law_all_signs : List Str := []
theorem sc__law_all_signs : FnScope nm__law_all_signs ps__law_all_signs (defScope s__law_all_signs) := ⟨rfl, rfl, rfl, by decide +kernel, rfl, by decide +kernel, by decide +kernel⟩
abbrev s__law_word : Stmt := (top 38)
abbrev nm__law_word : List Str := ["dice", "upto", "turn"]
abbrev ps__law_word : List Str := ["dice", "upto"]
theorem sc__law_word : FnScope nm__law_word ps__law_word (defScope s__law_word) := ⟨rfl, rfl, rfl, by decide +kernel, rfl, by decide +kernel, by decide +kernel⟩
abbrev s__law_path : Stmt := (top 39)
abbrev nm__law_path : List Str := ["dice"]
abbrev ps__law_path : List Str := ["dice"]
theorem sc__law_path : FnScope nm__law_path ps__law_path (defScope s__law_path) := ⟨rfl, rfl, rfl, by decide +kernel, rfl, by decide +kernel, by decide +kernel⟩
abbrev s__law_deed : Stmt := (top 40)
abbrev nm__law_deed : List Str := ["dice", "way", "turn"]
abbrev ps__law_deed : List Str := ["dice"]
theorem sc__law_deed : FnScope nm__law_deed ps__law_deed (defScope s__law_deed) := ⟨rfl, rfl, rfl, by decide +kernel, rfl, by decide +kernel, by decide +kernel⟩
abbrev s__law_line : Stmt := (top 41)
abbrev nm__law_line : List Str := ["deed", "texts", "text"]
abbrev ps__law_line : List Str := ["deed"]
theorem sc__law_line : FnScope nm__law_line ps__law_line (defScope s__law_line) := ⟨rfl, rfl, rfl, by decide +kernel, rfl, by decide +kernel, by decide +kernel⟩
abbrev s__law_texts_in : Stmt := (top 42)
abbrev nm__law_texts_in : List Str := ["words", "word", "sign"]
abbrev ps__law_texts_in : List Str := ["words"]
theorem sc__law_texts_in : FnScope nm__law_texts_in ps__law_texts_in (defScope s__law_texts_in) := ⟨rfl, rfl, rfl, by decide +kernel, rfl, by decide +kernel, by decide +kernel⟩
abbrev s__law_read : Stmt := (top 43)
abbrev nm__law_read : List Str := ["line", "words", "texts", "sizes"]
abbrev ps__law_read : List Str := ["line"]
theorem sc__law_read : FnScope nm__law_read ps__law_read (defScope s__law_read) := ⟨rfl, rfl, rfl, by decide +kernel, rfl, by decide +kernel, by decide +kernel⟩
abbrev s__law_is_deed : Stmt := (top 44)
abbrev nm__law_is_deed : List Str := ["deed", "paths", "path", "one"]
abbrev ps__law_is_deed : List Str := ["deed"]
theorem sc__law_is_deed : FnScope nm__law_is_deed ps__law_is_deed (defScope s__law_is_deed) := ⟨rfl, rfl, rfl, by decide +kernel, rfl, by decide +kernel, by decide +kernel⟩
abbrev s__law_bent : Stmt := (top 45)
abbrev nm__law_bent : List Str := ["dice", "line", "words", "way", "at", "spot", "some", "odd"]
abbrev ps__law_bent : List Str := ["dice", "line"]
theorem sc__law_bent : FnScope nm__law_bent ps__law_bent (defScope s__law_bent) := ⟨rfl, rfl, rfl, by decide +kernel, rfl, by decide +kernel, by decide +kernel⟩
abbrev s__law_told : Stmt := (top 46)
abbrev nm__law_told : List Str := ["text", "error"]
abbrev ps__law_told : List Str := ["text"]
theorem sc__law_told : FnScope nm__law_told ps__law_told (defScope s__law_told) := ⟨rfl, rfl, rfl, by decide +kernel, rfl, by decide +kernel, by decide +kernel⟩
abbrev s__law_due : Stmt := (top 47)
abbrev nm__law_due : List Str := ["lines", "deeds", "line", "deed"]
abbrev ps__law_due : List Str := ["lines"]
theorem sc__law_due : FnScope nm__law_due ps__law_due (defScope s__law_due) := ⟨rfl, rfl, rfl, by decide +kernel, rfl, by decide +kernel, by decide +kernel⟩
abbrev s__law_right : Stmt := (top 48)
abbrev nm__law_right : List Str := ["dice", "size", "turn", "deeds", "lines", "text", "rows", "at", "spot", "deed"]
abbrev ps__law_right : List Str := ["dice"]
theorem sc__law_right : FnScope nm__law_right ps__law_right (defScope s__law_right) := ⟨rfl, rfl, rfl, by decide +kernel, rfl, by decide +kernel, by decide +kernel⟩
abbrev s__law_word_of : Stmt := (top 49)
abbrev nm__law_word_of : List Str := ["call"]
abbrev ps__law_word_of : List Str := ["call"]
theorem sc__law_word_of : FnScope nm__law_word_of ps__law_word_of (defScope s__law_word_of) := ⟨rfl, rfl, rfl, by decide +kernel, rfl, by decide +kernel, by decide +kernel⟩
abbrev s__law_refused : Stmt := (top 50)
abbrev nm__law_refused : List Str := ["dice", "deed", "some", "more", "told", "odd", "other", "value"]
abbrev ps__law_refused : List Str := ["dice"]
theorem sc__law_refused : FnScope nm__law_refused ps__law_refused (defScope s__law_refused) := ⟨rfl, rfl, rfl, by decide +kernel, rfl, by decide +kernel, by decide +kernel⟩
abbrev s_law : Stmt := (top 51)
abbrev nm_law : List Str := ["script", "at", "dice", "long", "lines", "told", "due"]
abbrev ps_law : List Str := ["script"]
theorem sc_law : FnScope nm_law ps_law (defScope s_law) := ⟨rfl, rfl, rfl, by decide +kernel, rfl, by decide +kernel, by decide +kernel⟩
def km_WORDS_OF_DEEDS : Str → Option D := fun x => if x = Str.ofString "use" then some (.int 1) else if x = Str.ofString "put" then some (.int 2) else if x = Str.ofString "move" then some (.int 2) else if x = Str.ofString "store" then some (.int 1) else none
structure Tx (G : Gx) (wd : World) (mg : Str → Option Value) where
  a_ParseError___init__ : Addr
  d_ParseError___init__ : FuncData
  F_ParseError___init__ : Fun G.K "__init__" "ParseError.__init__" s_ParseError___init__ a_ParseError___init__ d_ParseError___init__
  b_ParseError___init__ : Binds G.K d_ParseError___init__ ps_ParseError___init__ []
  a_is_text : Addr
  d_is_text : FuncData
  F_is_text : Fun G.K "is_text" "is_text" s_is_text a_is_text d_is_text
  b_is_text : Binds G.K d_is_text ps_is_text []
  m_is_text : mg "is_text" = some (.ref a_is_text)
  a_is_name : Addr
  d_is_name : FuncData
  F_is_name : Fun G.K "is_name" "is_name" s_is_name a_is_name d_is_name
  b_is_name : Binds G.K d_is_name ps_is_name []
  m_is_name : mg "is_name" = some (.ref a_is_name)
  a_is_path : Addr
  d_is_path : FuncData
  F_is_path : Fun G.K "is_path" "is_path" s_is_path a_is_path d_is_path
  b_is_path : Binds G.K d_is_path ps_is_path []
  m_is_path : mg "is_path" = some (.ref a_is_path)
  a_are_texts : Addr
  d_are_texts : FuncData
  F_are_texts : Fun G.K "are_texts" "are_texts" s_are_texts a_are_texts d_are_texts
  b_are_texts : Binds G.K d_are_texts ps_are_texts []
  m_are_texts : mg "are_texts" = some (.ref a_are_texts)
  a_is_second : Addr
  d_is_second : FuncData
  F_is_second : Fun G.K "is_second" "is_second" s_is_second a_is_second d_is_second
  b_is_second : Binds G.K d_is_second ps_is_second []
  m_is_second : mg "is_second" = some (.ref a_is_second)
  a_is_deed : Addr
  d_is_deed : FuncData
  F_is_deed : Fun G.K "is_deed" "is_deed" s_is_deed a_is_deed d_is_deed
  b_is_deed : Binds G.K d_is_deed ps_is_deed []
  m_is_deed : mg "is_deed" = some (.ref a_is_deed)
  a_is_history : Addr
  d_is_history : FuncData
  F_is_history : Fun G.K "is_history" "is_history" s_is_history a_is_history d_is_history
  b_is_history : Binds G.K d_is_history ps_is_history []
  m_is_history : mg "is_history" = some (.ref a_is_history)
  a_is_text_word : Addr
  d_is_text_word : FuncData
  F_is_text_word : Fun G.K "is_text_word" "is_text_word" s_is_text_word a_is_text_word d_is_text_word
  b_is_text_word : Binds G.K d_is_text_word ps_is_text_word []
  m_is_text_word : mg "is_text_word" = some (.ref a_is_text_word)
  a_deed_words : Addr
  d_deed_words : FuncData
  F_deed_words : Fun G.K "deed_words" "deed_words" s_deed_words a_deed_words d_deed_words
  b_deed_words : Binds G.K d_deed_words ps_deed_words []
  m_deed_words : mg "deed_words" = some (.ref a_deed_words)
  a_write_history : Addr
  d_write_history : FuncData
  F_write_history : Fun G.K "write_history" "write_history" s_write_history a_write_history d_write_history
  b_write_history : Binds G.K d_write_history ps_write_history []
  m_write_history : mg "write_history" = some (.ref a_write_history)
  a_deed_in : Addr
  d_deed_in : FuncData
  F_deed_in : Fun G.K "deed_in" "deed_in" s_deed_in a_deed_in d_deed_in
  b_deed_in : Binds G.K d_deed_in ps_deed_in []
  m_deed_in : mg "deed_in" = some (.ref a_deed_in)
  a_read_history : Addr
  d_read_history : FuncData
  F_read_history : Fun G.K "read_history" "read_history" s_read_history a_read_history d_read_history
  b_read_history : Binds G.K d_read_history ps_read_history []
  m_read_history : mg "read_history" = some (.ref a_read_history)
  a__law_dice : Addr
  d__law_dice : FuncData
  F__law_dice : Fun G.K "_law_dice" "_law_dice" s__law_dice a__law_dice d__law_dice
  b__law_dice : Binds G.K d__law_dice ps__law_dice []
  m__law_dice : mg "_law_dice" = some (.ref a__law_dice)
  a__law_roll : Addr
  d__law_roll : FuncData
  F__law_roll : Fun G.K "_law_roll" "_law_roll" s__law_roll a__law_roll d__law_roll
  b__law_roll : Binds G.K d__law_roll ps__law_roll []
  m__law_roll : mg "_law_roll" = some (.ref a__law_roll)
  a__law_one_of : Addr
  d__law_one_of : FuncData
  F__law_one_of : Fun G.K "_law_one_of" "_law_one_of" s__law_one_of a__law_one_of d__law_one_of
  b__law_one_of : Binds G.K d__law_one_of ps__law_one_of []
  m__law_one_of : mg "_law_one_of" = some (.ref a__law_one_of)
  a__law_all_signs : Addr
  d__law_all_signs : FuncData
  F__law_all_signs : Fun G.K "_law_all_signs" "_law_all_signs" s__law_all_signs a__law_all_signs d__law_all_signs
  b__law_all_signs : Binds G.K d__law_all_signs ps__law_all_signs []
  m__law_all_signs : mg "_law_all_signs" = some (.ref a__law_all_signs)
  a__law_word : Addr
  d__law_word : FuncData
  F__law_word : Fun G.K "_law_word" "_law_word" s__law_word a__law_word d__law_word
  b__law_word : Binds G.K d__law_word ps__law_word []
  m__law_word : mg "_law_word" = some (.ref a__law_word)
  a__law_path : Addr
  d__law_path : FuncData
  F__law_path : Fun G.K "_law_path" "_law_path" s__law_path a__law_path d__law_path
  b__law_path : Binds G.K d__law_path ps__law_path []
  m__law_path : mg "_law_path" = some (.ref a__law_path)
  a__law_deed : Addr
  d__law_deed : FuncData
  F__law_deed : Fun G.K "_law_deed" "_law_deed" s__law_deed a__law_deed d__law_deed
  b__law_deed : Binds G.K d__law_deed ps__law_deed []
  m__law_deed : mg "_law_deed" = some (.ref a__law_deed)
  a__law_line : Addr
  d__law_line : FuncData
  F__law_line : Fun G.K "_law_line" "_law_line" s__law_line a__law_line d__law_line
  b__law_line : Binds G.K d__law_line ps__law_line []
  m__law_line : mg "_law_line" = some (.ref a__law_line)
  a__law_texts_in : Addr
  d__law_texts_in : FuncData
  F__law_texts_in : Fun G.K "_law_texts_in" "_law_texts_in" s__law_texts_in a__law_texts_in d__law_texts_in
  b__law_texts_in : Binds G.K d__law_texts_in ps__law_texts_in []
  m__law_texts_in : mg "_law_texts_in" = some (.ref a__law_texts_in)
  a__law_read : Addr
  d__law_read : FuncData
  F__law_read : Fun G.K "_law_read" "_law_read" s__law_read a__law_read d__law_read
  b__law_read : Binds G.K d__law_read ps__law_read []
  m__law_read : mg "_law_read" = some (.ref a__law_read)
  a__law_is_deed : Addr
  d__law_is_deed : FuncData
  F__law_is_deed : Fun G.K "_law_is_deed" "_law_is_deed" s__law_is_deed a__law_is_deed d__law_is_deed
  b__law_is_deed : Binds G.K d__law_is_deed ps__law_is_deed []
  m__law_is_deed : mg "_law_is_deed" = some (.ref a__law_is_deed)
  a__law_bent : Addr
  d__law_bent : FuncData
  F__law_bent : Fun G.K "_law_bent" "_law_bent" s__law_bent a__law_bent d__law_bent
  b__law_bent : Binds G.K d__law_bent ps__law_bent []
  m__law_bent : mg "_law_bent" = some (.ref a__law_bent)
  a__law_told : Addr
  d__law_told : FuncData
  F__law_told : Fun G.K "_law_told" "_law_told" s__law_told a__law_told d__law_told
  b__law_told : Binds G.K d__law_told ps__law_told []
  m__law_told : mg "_law_told" = some (.ref a__law_told)
  a__law_due : Addr
  d__law_due : FuncData
  F__law_due : Fun G.K "_law_due" "_law_due" s__law_due a__law_due d__law_due
  b__law_due : Binds G.K d__law_due ps__law_due []
  m__law_due : mg "_law_due" = some (.ref a__law_due)
  a__law_right : Addr
  d__law_right : FuncData
  F__law_right : Fun G.K "_law_right" "_law_right" s__law_right a__law_right d__law_right
  b__law_right : Binds G.K d__law_right ps__law_right []
  m__law_right : mg "_law_right" = some (.ref a__law_right)
  a__law_word_of : Addr
  d__law_word_of : FuncData
  F__law_word_of : Fun G.K "_law_word_of" "_law_word_of" s__law_word_of a__law_word_of d__law_word_of
  b__law_word_of : Binds G.K d__law_word_of ps__law_word_of []
  m__law_word_of : mg "_law_word_of" = some (.ref a__law_word_of)
  a__law_refused : Addr
  d__law_refused : FuncData
  F__law_refused : Fun G.K "_law_refused" "_law_refused" s__law_refused a__law_refused d__law_refused
  b__law_refused : Binds G.K d__law_refused ps__law_refused []
  m__law_refused : mg "_law_refused" = some (.ref a__law_refused)
  a_law : Addr
  d_law : FuncData
  F_law : Fun G.K "law" "law" s_law a_law d_law
  b_law : Binds G.K d_law ps_law []
  m_law : mg "law" = some (.ref a_law)
  m_DressError : mg "DressError" = some (.ref (G.cl "DressError"))
  x_DressError : PySem.W.excIn G.K (G.cl "DressError") [.type "ValueError", .type "Exception", .type "BaseException", .type "object"] "ValueError.__new__" = true
  k_DressError : PySem.W.keepIn G.K (.ref (G.cl "DressError")) = true
  b_DressError : PySem.W.subIn G.K (.ref (G.cl "DressError")) (.type "BaseException") = some true
  t_DressError : PySem.W.typeIn G.K (.ref (G.cl "DressError")) = some (.type "type")
  i_DressError : PySem.W.isClsIn G.K (G.cl "DressError") = true
  m_InvalidOperation : mg "InvalidOperation" = some (.ref (G.cl "InvalidOperation"))
  x_InvalidOperation : PySem.W.excIn G.K (G.cl "InvalidOperation") [.type "ValueError", .type "Exception", .type "BaseException", .type "object"] "ValueError.__new__" = true
  k_InvalidOperation : PySem.W.keepIn G.K (.ref (G.cl "InvalidOperation")) = true
  b_InvalidOperation : PySem.W.subIn G.K (.ref (G.cl "InvalidOperation")) (.type "BaseException") = some true
  t_InvalidOperation : PySem.W.typeIn G.K (.ref (G.cl "InvalidOperation")) = some (.type "type")
  i_InvalidOperation : PySem.W.isClsIn G.K (G.cl "InvalidOperation") = true
  m_InvalidText : mg "InvalidText" = some (.ref (G.cl "InvalidText"))
  x_InvalidText : PySem.W.excIn G.K (G.cl "InvalidText") [.type "ValueError", .type "Exception", .type "BaseException", .type "object"] "ValueError.__new__" = true
  k_InvalidText : PySem.W.keepIn G.K (.ref (G.cl "InvalidText")) = true
  b_InvalidText : PySem.W.subIn G.K (.ref (G.cl "InvalidText")) (.type "BaseException") = some true
  t_InvalidText : PySem.W.typeIn G.K (.ref (G.cl "InvalidText")) = some (.type "type")
  i_InvalidText : PySem.W.isClsIn G.K (G.cl "InvalidText") = true
  m_ParseError : mg "ParseError" = some (.ref (G.cl "ParseError"))
  o_ParseError : OexC G.K (G.cl "ParseError")
  f_ParseError : PySem.W.findIn G.K (.ref (G.cl "ParseError")) "__init__" = some (some (.ref a_ParseError___init__))
  tf_ParseError : PySem.W.typeIn G.K (.ref a_ParseError___init__) = some (.type "function")
  xf_ParseError : XfC G.K (G.cl "ParseError")
  no_ParseError : PySem.W.findIn G.K (.ref (G.cl "ParseError")) "number" = some none
  e_InvalidOperation_InvalidOperation : G.sub "InvalidOperation" "InvalidOperation" = some true
  e_InvalidText_InvalidText : G.sub "InvalidText" "InvalidText" = some true
  e_ParseError_ParseError : G.sub "ParseError" "ParseError" = some true
  e_InvalidOperation_InvalidText : G.sub "InvalidOperation" "InvalidText" = some false
  e_InvalidText_InvalidOperation : G.sub "InvalidText" "InvalidOperation" = some false
  t_SIGNS : Tok
  m_SIGNS : mg "SIGNS" = some (.str (Str.ofString "#$0123:_abcdefg") t_SIGNS)
  t_LETTERS : Tok
  m_LETTERS : mg "LETTERS" = some (.str (Str.ofString "abcdefghijklmnopqrstuvwxyz") t_LETTERS)
  t_MAX_NAME : Tok
  m_MAX_NAME : mg "MAX_NAME" = some (.int 8 t_MAX_NAME)
  t_MAX_PATH : Tok
  m_MAX_PATH : mg "MAX_PATH" = some (.int 12 t_MAX_PATH)
  t_MAX_DEEDS : Tok
  m_MAX_DEEDS : mg "MAX_DEEDS" = some (.int 40 t_MAX_DEEDS)
  t_USE : Tok
  m_USE : mg "USE" = some (.str (Str.ofString "use") t_USE)
  t_PUT : Tok
  m_PUT : mg "PUT" = some (.str (Str.ofString "put") t_PUT)
  t_MOVE : Tok
  m_MOVE : mg "MOVE" = some (.str (Str.ofString "move") t_MOVE)
  t_TAKE_histories : Tok
  m_TAKE_histories : mg "TAKE_histories" = some (.str (Str.ofString "take") t_TAKE_histories)
  t_STORE : Tok
  m_STORE : mg "STORE" = some (.str (Str.ofString "store") t_STORE)
  t_TAKE_formats : Tok
  m_TAKE_formats : mg "TAKE_formats" = some (.str (Str.ofString "take") t_TAKE_formats)
  p_WORDS_OF_DEEDS : Addr
  m_WORDS_OF_DEEDS : mg "WORDS_OF_DEEDS" = some (.ref p_WORDS_OF_DEEDS)
  km_WORDS_OF_DEEDS : KMapD G wd p_WORDS_OF_DEEDS km_WORDS_OF_DEEDS
  n_len : mg "len" = none
  n_isinstance : mg "isinstance" = none
  n_all : mg "all" = none
  n_str : mg "str" = none
  n_int : mg "int" = none
  n_abs : mg "abs" = none
  n_max : mg "max" = none
  n_min : mg "min" = none
  n_range : mg "range" = none
  n_tuple : mg "tuple" = none
  n_list : mg "list" = none
  n_enumerate : mg "enumerate" = none
  n_repr : mg "repr" = none
  c__law_refused : Addr
  P__law_refused : Addr
  hc__law_refused : d__law_refused.code = .ref c__law_refused
  tm__law_refused : (P__law_refused, ((Str.ofString "_law_refused") ++ (Str.ofString ".<locals>.")) ++ (Str.ofString "<lambda>")) ∈ G.tabs
  tu__law_refused : ∀ p ∈ G.tabs, p.1 = P__law_refused → p.2 = ((Str.ofString "_law_refused") ++ (Str.ofString ".<locals>.")) ++ (Str.ofString "<lambda>")
section
variable {G : Gx} {P : Program} {wd : World} {mg : Str → Option Value} {base : Heap}
theorem ok__law_dice (T : Tx G wd mg) : PFnK G P wd mg base CX0 1 "_law_dice" 2 true sp__law_dice := by
  refine ⟨⟨T.a__law_dice, T.d__law_dice, ps__law_dice, fnPk T.F__law_dice sc__law_dice (by decide) (w := w__law_dice G) (fun cdv A outer s H E hr => ?_) (pure__law_dice G), T.m__law_dice, T.F__law_dice.kp, T.b__law_dice⟩, len__law_dice⟩
  exact (py_cons (py_set 2 sc__law_dice.nd rfl (Or.inl rfl) (px_op add_ok add_s (px_op mul_ok mul_s px_int (px_name 1)) px_int))
  (py_cons (py_if (pxt_cmp lt_ok lt_s (px_name 1) (px_callB len_anyK len_s rfl T.n_len (by decide +kernel) (pxa_cons (px_name 0) pxa_nil)) (nomark _))
  (py_one (py_set 2 sc__law_dice.nd rfl (Or.inl rfl) (px_ix ix_ok ix_s (px_name 0) (px_name 1) (fun _ _ => rfl))))
  py_nil)
  (py_cons (py_set 3 sc__law_dice.nd rfl (Or.inl rfl) (px_op mod_ok mod_s (px_callT toInt_ok toInt_s rfl T.n_int (by decide +kernel) (pxa_cons (px_callB call_abs abs_s rfl T.n_abs (by decide +kernel) (pxa_cons (px_name 2) pxa_nil)) pxa_nil)) (px_op pow_ok pow_s (px_op pow_ok pow_s px_int px_int) px_int)))
  (py_cons (py_set 4 sc__law_dice.nd rfl (Or.inl rfl) (px_op add_ok add_s (px_op add_ok add_s (px_op add_ok add_s (px_op mul_ok mul_s (px_op mod_ok mod_s (px_callT toInt_ok toInt_s rfl T.n_int (by decide +kernel) (pxa_cons (px_name 3) pxa_nil)) px_int) px_int) (px_op mul_ok mul_s px_int (px_name 1))) (px_op mul_ok mul_s px_int (px_callT toInt_ok toInt_s rfl T.n_int (by decide +kernel) (pxa_cons (px_cmp lt_ok lt_s (px_name 2) px_int (nomark _)) pxa_nil)))) px_int))
  (py_one (py_retNew (pxn_lst (pxa_cons (px_callB (call_max2 rfl) max2_s rfl T.n_max (by decide +kernel) (pxa_cons px_int (pxa_cons (px_op sub_ok sub_s (px_name 3) (px_op pow_ok pow_s px_int px_int)) pxa_nil))) (pxa_cons (px_op mod_ok mod_s (px_callT toInt_ok toInt_s rfl T.n_int (by decide +kernel) (pxa_cons (px_name 4) pxa_nil)) px_int) (pxa_cons px_int pxa_nil))))))))))
theorem ok__law_roll (T : Tx G wd mg) : PFnK G P wd mg base CX0 1 "_law_roll" 2 false sp__law_roll := by
  refine ⟨⟨T.a__law_roll, T.d__law_roll, ps__law_roll, fnPk T.F__law_roll sc__law_roll (by decide) (w := w__law_roll G) (fun cdv A outer s H E hr => ?_) (pure__law_roll G), T.m__law_roll, T.F__law_roll.kp, T.b__law_roll⟩, len__law_roll⟩
  exact (py_cons (py_if (pxt_cmp gt_ok gt_s (px_ix ix_ok ix_s (px_name 0) px_int (fun _ _ => rfl)) px_int (nomark _))
  (py_cons (py_set 2 sc__law_roll.nd rfl (Or.inl rfl) (px_op mod_ok mod_s (px_callT toInt_ok toInt_s rfl T.n_int (by decide +kernel) (pxa_cons (px_ix ix_ok ix_s (px_name 0) px_int (fun _ _ => rfl)) pxa_nil)) (px_name 1)))
  (py_cons (py_store 0 (pv 0) (px_op fdiv_ok fdiv_s (px_ix ix_ok ix_s (px_name 0) px_int (fun _ _ => rfl)) (px_name 1)) px_int)
  (py_one (py_ret (px_name 2)))))
  py_nil)
  (py_cons (py_store 0 (pv 0) (px_op add_ok add_s (px_ix ix_ok ix_s (px_name 0) px_int (fun _ _ => rfl)) px_int) px_int)
  (py_cons (py_set 3 sc__law_roll.nd rfl (Or.inl rfl) (px_op mod_ok mod_s (px_callT toInt_ok toInt_s rfl T.n_int (by decide +kernel) (pxa_cons (px_op add_ok add_s (px_ix ix_ok ix_s (px_name 0) px_int (fun _ _ => rfl)) (px_op mul_ok mul_s px_int (px_ix ix_ok ix_s (px_name 0) px_int (fun _ _ => rfl)))) pxa_nil)) px_int))
  (py_cons (py_set 4 sc__law_roll.nd rfl (Or.inl rfl) (px_op add_ok add_s (px_op mul_ok mul_s (px_op mod_ok mod_s (px_callT toInt_ok toInt_s rfl T.n_int (by decide +kernel) (pxa_cons (px_op mul_ok mul_s (px_name 3) (px_name 3)) pxa_nil)) px_int) (px_name 3)) (px_op mul_ok mul_s px_int (px_ix ix_ok ix_s (px_name 0) px_int (fun _ _ => rfl)))))
  (py_cons (py_set 4 sc__law_roll.nd rfl (Or.inl rfl) (px_op mod_ok mod_s (px_callT toInt_ok toInt_s rfl T.n_int (by decide +kernel) (pxa_cons (px_name 4) pxa_nil)) px_int))
  (py_one (py_ret (px_op mod_ok mod_s (px_callT toInt_ok toInt_s rfl T.n_int (by decide +kernel) (pxa_cons (px_op fdiv_ok fdiv_s (px_name 4) px_int) pxa_nil)) (px_name 1)))))))))
theorem ok__law_one_of (T : Tx G wd mg) : PFnK G P wd mg base CX0 2 "_law_one_of" 2 false sp__law_one_of := by
  have G__law_roll := ok__law_roll (P := P) (wd := wd) (base := base) T
  refine ⟨⟨T.a__law_one_of, T.d__law_one_of, ps__law_one_of, fnPk T.F__law_one_of sc__law_one_of (by decide) (w := w__law_one_of G) (fun cdv A outer s H E hr => ?_) (pure__law_one_of G), T.m__law_one_of, T.F__law_one_of.kp, T.b__law_one_of⟩, len__law_one_of⟩
  exact (py_one (py_ret (px_ix ix_ok ix_s (px_name 1) (px_callPk G__law_roll (hr.mono (by decide)) rfl (pxa_cons (px_name 0) (pxa_cons (px_callB len_anyK len_s rfl T.n_len (by decide +kernel) (pxa_cons (px_name 1) pxa_nil)) pxa_nil))) (fun _ _ => rfl))))
theorem ok__law_all_signs (T : Tx G wd mg) : PFnK G P wd mg base CX0 1 "_law_all_signs" 0 false sp__law_all_signs := by
  refine ⟨⟨T.a__law_all_signs, T.d__law_all_signs, ps__law_all_signs, fnPk T.F__law_all_signs sc__law_all_signs (by decide) (w := w__law_all_signs G) (fun cdv A outer s H E hr => ?_) (pure__law_all_signs G), T.m__law_all_signs, T.F__law_all_signs.kp, T.b__law_all_signs⟩, len__law_all_signs⟩
  exact (py_one (py_ret px_str))
end
end Pu
namespace Pu
open PySem PySem.Spec PyProof.Rows L2 Lk Evl StX My
/-! ### values of no great size, that are no objects -/
mutual
def big : D → Nat
  | .str z => z.length
  | .lst ds => max ds.length (bigs ds)
  | .tup ds => max ds.length (bigs ds)
  | .non | .bl _ | .int _ | .dct _ _ => 0
  | _ => 2000000
def bigs : List D → Nat
  | [] => 0
  | d :: ds => max (big d) (bigs ds)
end
theorem big_mem {d : D} : ∀ {ds : List D}, d ∈ ds → big d ≤ bigs ds
  | x :: ds, h => by
    rw [bigs]
    rcases List.mem_cons.mp h with rfl | h
    · exact Nat.le_max_left _ _
    · exact Nat.le_trans (big_mem h) (Nat.le_max_right _ _)
theorem bigs_le {n : Nat} : ∀ {ds : List D}, (∀ d ∈ ds, big d ≤ n) → bigs ds ≤ n
  | [], _ => Nat.zero_le _
  | x :: ds, h => by
    rw [bigs]
    exact Nat.max_le.mpr ⟨h _ List.mem_cons_self, bigs_le fun d hd => h d (List.mem_cons_of_mem _ hd)⟩
theorem big_tup {ds : List D} {n : Nat} (h : big (.tup ds) ≤ n) : ds.length ≤ n ∧ ∀ d ∈ ds, big d ≤ n := by
  rw [big] at h
  have := Nat.max_le.mp h
  exact ⟨this.1, fun d hd => Nat.le_trans (big_mem hd) this.2⟩
/-! ### what the package looks at -/
def LT : Str := "abcdefghijklmnopqrstuvwxyz"
def letters : List Nat := tl LT
def txtS (z : Str) : Bool := (tl z).all fun c => decide (c ∈ sigs)
def nameS (z : Str) : Bool := decide (1 ≤ z.length) && decide (z.length ≤ 8) && (tl z).all fun c => decide (c ∈ letters)
def pathS (z : Str) : Bool := txtS z && (decide (1 ≤ z.length) && decide (z.length ≤ 12))
def onS (f : Str → Bool) : D → Bool
  | .str z => f z
  | _ => false
def txtsD : D → Bool
  | .tup ds => ds.all (onS txtS)
  | _ => false
def secondD (w : Str) (d : D) : Bool := if w = Str.ofString "put" then onS txtS d else if w = Str.ofString "move" then onS pathS d else decide (w = Str.ofString "take") && txtsD d
def deedD : D → Bool
  | .tup [.str w, d] => if w = Str.ofString "use" then onS nameS d else decide (w = Str.ofString "store") && onS pathS d
  | .tup [.str w, d, e] => onS pathS d && secondD w e
  | _ => false
def histD : D → Bool
  | .tup ds => decide (ds.length ≤ 40) && ds.all deedD
  | _ => false
/-! ### deeds -/
inductive Deed
  | use (n : Str) | store (p : Str) | put (p t : Str) | move (p q : Str) | take (p : Str) (fs : List Str)
def eqW (z : Str) : Str := Str.ofString "=" ++ z
namespace Deed
def data : Deed → D
  | use n => .tup [.str (Str.ofString "use"), .str n]
  | store p => .tup [.str (Str.ofString "store"), .str p]
  | put p t => .tup [.str (Str.ofString "put"), .str p, .str t]
  | move p q => .tup [.str (Str.ofString "move"), .str p, .str q]
  | take p fs => .tup [.str (Str.ofString "take"), .str p, .tup (fs.map D.str)]
def ok : Deed → Prop
  | use n => nameS n = true
  | store p => pathS p = true
  | put p t => pathS p = true ∧ txtS t = true
  | move p q => pathS p = true ∧ pathS q = true
  | take p fs => pathS p = true ∧ ∀ f ∈ fs, txtS f = true
def words : Deed → List Str
  | use n => [Str.ofString "use", n]
  | store p => [Str.ofString "store", eqW p]
  | put p t => [Str.ofString "put", eqW p, eqW t]
  | move p q => [Str.ofString "move", eqW p, eqW q]
  | take p fs => Str.ofString "take" :: eqW p :: fs.map eqW
def weight (e : Deed) : Nat := (e.words.map (·.length)).sum + e.words.length
def line (e : Deed) : Str := Txt.join (Str.ofString " ") e.words
end Deed
def weights (es : List Deed) : Nat := (es.map Deed.weight).sum
def hText (es : List Deed) : Str := Txt.join (Str.ofString "\n") (es.map Deed.line)
theorem onS_inv {f : Str → Bool} {d : D} (h : onS f d = true) : ∃ z, d = .str z ∧ f z = true := by
  cases d with
  | str z => exact ⟨z, rfl, h⟩
  | _ => cases h
theorem txts_inv : ∀ {ds : List D}, ds.all (onS txtS) = true → ∃ fs : List Str, ds = fs.map D.str ∧ ∀ f ∈ fs, txtS f = true
  | [], _ => ⟨[], rfl, fun _ h => nomatch h⟩
  | d :: ds, h => by
    rw [List.all_cons, Bool.and_eq_true] at h
    obtain ⟨z, rfl, hz⟩ := onS_inv h.1
    obtain ⟨fs, rfl, hf⟩ := txts_inv h.2
    exact ⟨z :: fs, rfl, fun f hf' => by
      rcases List.mem_cons.mp hf' with rfl | h
      · exact hz
      · exact hf f h⟩
theorem deed_inv {d : D} (h : deedD d = true) : ∃ e : Deed, d = e.data ∧ e.ok := by
  have two : ∀ (w : Str) (x : D), d = .tup [.str w, x] → ∃ e : Deed, d = e.data ∧ e.ok := by
    rintro w x rfl
    have h' : (if w = Str.ofString "use" then onS nameS x else decide (w = Str.ofString "store") && onS pathS x) = true := h
    split at h'
    · rename_i hw
      obtain ⟨z, rfl, hz⟩ := onS_inv h'
      exact ⟨.use z, by rw [hw]; rfl, hz⟩
    · rw [Bool.and_eq_true, decide_eq_true_eq] at h'
      obtain ⟨z, rfl, hz⟩ := onS_inv h'.2
      exact ⟨.store z, by rw [h'.1]; rfl, hz⟩
  have three : ∀ (w : Str) (x y : D), d = .tup [.str w, x, y] → ∃ e : Deed, d = e.data ∧ e.ok := by
    rintro w x y rfl
    have h' : (onS pathS x && secondD w y) = true := h
    rw [Bool.and_eq_true] at h'
    obtain ⟨p, rfl, hp⟩ := onS_inv h'.1
    have h2 := h'.2
    unfold secondD at h2
    split at h2
    · rename_i hw
      obtain ⟨z, rfl, hz⟩ := onS_inv h2
      exact ⟨.put p z, by rw [hw]; rfl, hp, hz⟩
    · split at h2
      · rename_i hw
        obtain ⟨z, rfl, hz⟩ := onS_inv h2
        exact ⟨.move p z, by rw [hw]; rfl, hp, hz⟩
      · rw [Bool.and_eq_true, decide_eq_true_eq] at h2
        cases y with
        | tup ds =>
          obtain ⟨fs, rfl, hf⟩ := txts_inv h2.2
          exact ⟨.take p fs, by rw [h2.1]; rfl, hp, hf⟩
        | _ => cases h2.2
  cases d with
  | tup ds =>
    match ds, h, two, three with
    | [.str w, x], _, two, _ => exact two w x rfl
    | [.str w, x, y], _, _, three => exact three w x y rfl
    | [], h, _, _ => cases h
    | [d0], h, _, _ => cases d0 <;> cases h
    | .non :: _ :: r, h, _, _ => rcases r with _ | ⟨_, _ | _⟩ <;> cases h
    | .bl _ :: _ :: r, h, _, _ => rcases r with _ | ⟨_, _ | _⟩ <;> cases h
    | .int _ :: _ :: r, h, _, _ => rcases r with _ | ⟨_, _ | _⟩ <;> cases h
    | .lst _ :: _ :: r, h, _, _ => rcases r with _ | ⟨_, _ | _⟩ <;> cases h
    | .sl _ :: _ :: r, h, _, _ => rcases r with _ | ⟨_, _ | _⟩ <;> cases h
    | .tup _ :: _ :: r, h, _, _ => rcases r with _ | ⟨_, _ | _⟩ <;> cases h
    | .dct _ _ :: _ :: r, h, _, _ => rcases r with _ | ⟨_, _ | _⟩ <;> cases h
    | .ty _ :: _ :: r, h, _, _ => rcases r with _ | ⟨_, _ | _⟩ <;> cases h
    | .cls _ :: _ :: r, h, _, _ => rcases r with _ | ⟨_, _ | _⟩ <;> cases h
    | .obj _ _ _ :: _ :: r, h, _, _ => rcases r with _ | ⟨_, _ | _⟩ <;> cases h
    | .exc _ _ _ _ _ :: _ :: r, h, _, _ => rcases r with _ | ⟨_, _ | _⟩ <;> cases h
    | .str _ :: _ :: _ :: _ :: _, h, _, _ => cases h
  | _ => cases h
theorem ok_deed {e : Deed} (h : e.ok) : deedD e.data = true := by
  cases e with
  | use n =>
    show (if Str.ofString "use" = Str.ofString "use" then onS nameS (.str n) else decide (Str.ofString "use" = Str.ofString "store") && onS pathS (.str n)) = true
    rw [if_pos rfl]; exact h
  | store p =>
    show (if Str.ofString "store" = Str.ofString "use" then onS nameS (.str p) else decide (Str.ofString "store" = Str.ofString "store") && onS pathS (.str p)) = true
    rw [if_neg (by decide +kernel), decide_eq_true rfl, Bool.true_and]; exact h
  | put p t =>
    show (onS pathS (.str p) && secondD _ _) = true
    rw [show onS pathS (.str p) = true from h.1, Bool.true_and]
    unfold secondD
    rw [if_pos rfl]; exact h.2
  | move p t =>
    show (onS pathS (.str p) && secondD _ _) = true
    rw [show onS pathS (.str p) = true from h.1, Bool.true_and]
    unfold secondD
    rw [if_neg (by decide +kernel), if_pos rfl]; exact h.2
  | take p fs =>
    show (onS pathS (.str p) && secondD _ _) = true
    rw [show onS pathS (.str p) = true from h.1, Bool.true_and]
    unfold secondD
    rw [if_neg (by decide +kernel), if_neg (by decide +kernel), decide_eq_true rfl, Bool.true_and]
    show (fs.map D.str).all (onS txtS) = true
    rw [List.all_map, List.all_eq_true]
    exact h.2
theorem deeds_inv : ∀ {ds : List D}, ds.all deedD = true → ∃ es : List Deed, ds = es.map Deed.data ∧ ∀ e ∈ es, e.ok
  | [], _ => ⟨[], rfl, fun _ h => nomatch h⟩
  | d :: ds, h => by
    rw [List.all_cons, Bool.and_eq_true] at h
    obtain ⟨e, rfl, he⟩ := deed_inv h.1
    obtain ⟨es, rfl, hes⟩ := deeds_inv h.2
    exact ⟨e :: es, rfl, fun f hf => by
      rcases List.mem_cons.mp hf with rfl | h
      · exact he
      · exact hes f h⟩
/-! ### a line read -/
def cut1 (z : Str) : Str := cutS z (some 1) none
def twS (z : Str) : Bool := decide (cutS z none (some 1) = Str.ofString "=") && txtS (cut1 z)
/-- a line's deed, as data -/
def readD (line : Str) : Option D :=
  match Txt.split line (Str.ofString " ") with
  | [] => none
  | w :: rest =>
    if w = Str.ofString "use" then
      match rest with
      | [x] => if x = Str.ofString "" then none else some (.tup [.str w, .str x])
      | _ => none
    else if rest.all twS then
      let ts := rest.map cut1
      if w = Str.ofString "take" then
        match ts with
        | [] => none
        | t :: more => some (.tup [.str w, .str t, .tup (more.map D.str)])
      else if (w = Str.ofString "put" ∧ ts.length = 2) ∨ (w = Str.ofString "move" ∧ ts.length = 2) ∨ (w = Str.ofString "store" ∧ ts.length = 1) then some (.tup (.str w :: ts.map D.str))
      else none
    else none
/-- the law's own look at a deed that was read -/
theorem cut1_eqW (z : Str) : cut1 (eqW z) = z := TL.ext_tl (by
  show tl (cutS (eqW z) (some 1) none) = tl z
  rw [tl_cut1, eqW, tl_app]
  rfl)
theorem head_eqW (z : Str) : cutS (eqW z) none (some 1) = Str.ofString "=" := TL.ext_tl (by
  show tl (cutS (eqW z) none (some 1)) = tl (Str.ofString "=")
  rw [show tl (cutS (eqW z) none (some 1)) = (tl (eqW z)).take 1 from tl_cutTo (eqW z) 1, eqW, tl_app]
  rfl)
theorem tw_eqW {z : Str} (h : txtS z = true) : twS (eqW z) = true := by
  unfold twS
  rw [head_eqW, cut1_eqW, h, decide_eq_true rfl]
  rfl
theorem path_txt {z : Str} (h : pathS z = true) : txtS z = true := by
  unfold pathS at h
  rw [Bool.and_eq_true] at h
  exact h.1
theorem sp_word {z : Str} (h : txtS z = true) : (32 : Nat) ∉ tl z := fun hm => by
  have := List.all_eq_true.mp h 32 hm
  revert this
  decide +kernel
theorem sp_eqW {z : Str} (h : txtS z = true) : (32 : Nat) ∉ tl (eqW z) := fun hm => by
  rw [eqW, tl_app] at hm
  rcases List.mem_append.mp hm with h' | h'
  · revert h'; decide +kernel
  · exact sp_word h h'
theorem sp_name {z : Str} (h : nameS z = true) : (32 : Nat) ∉ tl z := fun hm => by
  unfold nameS at h
  rw [Bool.and_eq_true] at h
  have := List.all_eq_true.mp h.2 32 hm
  revert this
  decide +kernel
theorem split_words {ws : List Str} (hne : ws ≠ []) (h : ∀ z ∈ ws, (32 : Nat) ∉ tl z) : Txt.split (Txt.join (Str.ofString " ") ws) (Str.ofString " ") = ws :=
  TL.split_join (s := 32) (S := []) (by decide +kernel) (by decide +kernel) hne h
theorem read_line {e : Deed} (h : e.ok) : readD e.line = some e.data := by
  have u : (32 : Nat) ∉ tl (Str.ofString "use") ∧ (32 : Nat) ∉ tl (Str.ofString "store") ∧ (32 : Nat) ∉ tl (Str.ofString "put") ∧ (32 : Nat) ∉ tl (Str.ofString "move") ∧ (32 : Nat) ∉ tl (Str.ofString "take") := by decide +kernel
  have n1 : Str.ofString "store" ≠ Str.ofString "use" := by decide +kernel
  have n2 : Str.ofString "put" ≠ Str.ofString "use" := by decide +kernel
  have n3 : Str.ofString "move" ≠ Str.ofString "use" := by decide +kernel
  have n4 : Str.ofString "take" ≠ Str.ofString "use" := by decide +kernel
  have m1 : Str.ofString "store" ≠ Str.ofString "take" := by decide +kernel
  have m2 : Str.ofString "put" ≠ Str.ofString "take" := by decide +kernel
  have m3 : Str.ofString "move" ≠ Str.ofString "take" := by decide +kernel
  cases e with
  | use n =>
    have hs : Txt.split (Deed.line (.use n)) (Str.ofString " ") = [Str.ofString "use", n] := split_words (by simp [Deed.words]) (by
      intro z hz
      rcases List.mem_cons.mp hz with rfl | hz
      · exact u.1
      · rw [List.mem_singleton.mp hz]; exact sp_name h)
    unfold readD
    rw [hs]
    have hn : n ≠ Str.ofString "" := fun z => by
      rw [z] at h
      revert h
      show ¬ nameS (Str.ofString "") = true
      decide +kernel
    simp only [if_pos, if_neg hn]
    rfl
  | store p =>
    have hs : Txt.split (Deed.line (.store p)) (Str.ofString " ") = [Str.ofString "store", eqW p] := split_words (by simp [Deed.words]) (by
      intro z hz
      rcases List.mem_cons.mp hz with rfl | hz
      · exact u.2.1
      · rw [List.mem_singleton.mp hz]; exact sp_eqW (path_txt h))
    unfold readD
    rw [hs]
    simp only [List.all_cons, List.all_nil, tw_eqW (path_txt h), List.map_cons, List.map_nil, cut1_eqW, if_neg n1, if_neg m1, Bool.and_true, if_true]
    rw [if_pos (by simp)]
    rfl
  | put p t =>
    have hs : Txt.split (Deed.line (.put p t)) (Str.ofString " ") = [Str.ofString "put", eqW p, eqW t] := split_words (by simp [Deed.words]) (by
      intro z hz
      simp only [Deed.words, List.mem_cons, List.not_mem_nil, or_false] at hz
      rcases hz with rfl | rfl | rfl
      · exact u.2.2.1
      · exact sp_eqW (path_txt h.1)
      · exact sp_eqW h.2)
    unfold readD
    rw [hs]
    simp only [List.all_cons, List.all_nil, tw_eqW (path_txt h.1), tw_eqW h.2, List.map_cons, List.map_nil, cut1_eqW, if_neg n2, if_neg m2, Bool.and_true, if_true]
    rw [if_pos (by simp)]
    rfl
  | move p t =>
    have hs : Txt.split (Deed.line (.move p t)) (Str.ofString " ") = [Str.ofString "move", eqW p, eqW t] := split_words (by simp [Deed.words]) (by
      intro z hz
      simp only [Deed.words, List.mem_cons, List.not_mem_nil, or_false] at hz
      rcases hz with rfl | rfl | rfl
      · exact u.2.2.2.1
      · exact sp_eqW (path_txt h.1)
      · exact sp_eqW (path_txt h.2))
    unfold readD
    rw [hs]
    simp only [List.all_cons, List.all_nil, tw_eqW (path_txt h.1), tw_eqW (path_txt h.2), List.map_cons, List.map_nil, cut1_eqW, if_neg n3, if_neg m3, Bool.and_true, if_true]
    rw [if_pos (by simp)]
    rfl
  | take p fs =>
    have hs : Txt.split (Deed.line (.take p fs)) (Str.ofString " ") = Str.ofString "take" :: eqW p :: fs.map eqW := split_words (by simp [Deed.words]) (by
      intro z hz
      simp only [Deed.words, List.mem_cons] at hz
      rcases hz with rfl | rfl | hz
      · exact u.2.2.2.2
      · exact sp_eqW (path_txt h.1)
      · obtain ⟨f, hf, rfl⟩ := List.mem_map.mp hz
        exact sp_eqW (h.2 f hf))
    have ha : (fs.map eqW).all twS = true := by
      rw [List.all_map, List.all_eq_true]
      exact fun f hf => tw_eqW (h.2 f hf)
    have hm : (fs.map eqW).map cut1 = fs := by
      rw [List.map_map]
      exact (List.map_congr_left fun f _ => cut1_eqW f).trans (List.map_id fs)
    unfold readD
    rw [hs]
    simp only [List.all_cons, ha, tw_eqW (path_txt h.1), List.map_cons, hm, cut1_eqW, if_neg n4, Bool.and_true, if_true]
    rfl
end Pu
namespace Pu
open PySem PySem.Spec PyProof.Rows L2 Lk Evl StX

open My
theorem size_le {n : Nat} (h : n ≤ 1000000) : n ≤ sizeLine := Nat.le_trans h (Nat.le_of_ble_eq_true rfl)
theorem tl_size {z : Str} (h : z.length ≤ 1000000) : z.cps.toList.length ≤ sizeLine := by
  rw [show z.cps.toList.length = z.length from tl_len z]; exact size_le h
/-- a def that looks at a value -/
def spLook (f : D → Bool) : PSp := fun cells q _ => ∃ d, cells = [.fz d] ∧ big d ≤ 1000000 ∧ q (.bl (f d)) cells
theorem len_look {f : D → Bool} : Len 1 (spLook f) := fun cells q eq ⟨d, h, _⟩ => by rw [h]; rfl
abbrev sp_is_text : PSp := spLook (onS txtS)
theorem len_is_text : Len 1 sp_is_text := len_look
abbrev sp_is_name : PSp := spLook (onS nameS)
theorem len_is_name : Len 1 sp_is_name := len_look
abbrev sp_is_path : PSp := spLook (onS pathS)
theorem len_is_path : Len 1 sp_is_path := len_look
/-- reading of is_text: slots 0:value 1:sign, owned - -/
def w_is_text (G : Gx) : WS := (wRet (wAndV (wCall (d2 (dIsi .str)) (wCons (wName 0) (wCons (wC (.ty "str")) wNil))) (wCall (d1 dAll) (wCons (wV (nLc [1] (wItems (wName 0)) (wgName 1) wYes (wOp dIn (wName 1) (wC (.str (Str.ofString "#$0123:_abcdefg")))))) wNil))))
def w_is_name_1 (G : Gx) : WS := (wRet (wCall (d1 dAll) (wCons (wV (nLc [1] (wItems (wName 0)) (wgName 1) wYes (wOp dIn (wName 1) (wC (.str (Str.ofString "abcdefghijklmnopqrstuvwxyz")))))) wNil)))
/-- reading of is_name: slots 0:value 1:letter, owned - -/
def w_is_name (G : Gx) : WS := (wSeq (wIfS (wOrT (wNotT (wTru (wCall (d2 (dIsi .str)) (wCons (wName 0) (wCons (wC (.ty "str")) wNil))))) (wNotT (wB (wChain dLe dLe (wC (.int 1)) (wCall (d1 dLen) (wCons (wName 0) wNil)) (wC (.int 8))))))
  (wRet (wC (.bl false)))
  wNext) (w_is_name_1 G))
/-- reading of is_path: slots 0:value, owned - -/
def w_is_path (G : Gx) : WS := (wRet (wAndV (wCallP sp_is_text (wCons (wName 0) wNil)) (wChain dLe dLe (wC (.int 1)) (wCall (d1 dLen) (wCons (wName 0) wNil)) (wC (.int 12)))))
theorem pure_is_text (G : Gx) : Pure false 1 2 sp_is_text (w_is_text G) := by
  intro cells q eq hl hp
  obtain ⟨d, rfl, hb, k⟩ := hp
  cases d <;> first | (exact absurd (show 2000000 ≤ 1000000 from hb) (by decide)) | (exact ⟨rfl, rfl, k⟩) | skip
  rename_i z
  refine ⟨rfl, lc_m (fun c => .bl (decide (c ∈ sigs))) (tl_size hb) (fun c K1 K2 hc k => k) (all_m ⟨rfl, k⟩)⟩
theorem nd0 : ([] : List Nat).Nodup := List.Pairwise.nil
theorem pure_is_name (G : Gx) : Pure false 1 2 sp_is_name (w_is_name G) := by
  intro cells q eq hl hp
  obtain ⟨d, rfl, hb, k⟩ := hp
  cases d <;> first | (exact absurd (show 2000000 ≤ 1000000 from hb) (by decide)) | (exact ⟨rfl, rfl, k⟩) | skip
  rename_i z
  have fin : ∀ b, nameS z = b → q (.bl b) [.fz (.str z)] := fun b e => by subst e; exact k
  have nm : nameS z = (decide ((1 : Int) ≤ z.length) && decide ((z.length : Int) ≤ 8) && (tl z).all fun c => decide (c ∈ letters)) := by
    unfold nameS
    congr 2 <;> (apply decide_eq_decide.mpr; omega)
  refine ⟨rfl, size_le hb, ite2 (fun h1 => ite2 (fun h2 => ⟨rfl, fin _ ?_⟩) (fun h2 => ?_)) (fun h1 => ⟨rfl, fin _ ?_⟩)⟩
  · rw [Bool.not_eq_true'] at h2
    rw [nm, h2, Bool.and_false, Bool.false_and]
  · rw [Bool.not_eq_false'] at h2
    refine lc_m (fun c => .bl (decide (c ∈ letters))) (tl_size hb) (fun c K1 K2 hc k => k) (all_m ⟨rfl, fin _ ?_⟩)
    rw [nm, h1, h2]; rfl
  · rw [nm, h1]; rfl
theorem pure_is_path (G : Gx) : Pure false 1 1 sp_is_path (w_is_path G) := by
  intro cells q eq hl hp
  obtain ⟨d, rfl, hb, k⟩ := hp
  refine ⟨nd0, d, rfl, hb, ite2 (fun h0 => ?_) (fun h0 => ?_)⟩
  · obtain ⟨z, rfl, hz⟩ := onS_inv h0
    have fin : ∀ b, pathS z = b → q (.bl b) [.fz (.str z)] := fun b e => by subst e; exact k
    have nm : pathS z = (decide ((1 : Int) ≤ z.length) && decide ((z.length : Int) ≤ 12)) := by
      unfold pathS
      rw [hz, Bool.true_and]
      congr 1 <;> (apply decide_eq_decide.mpr; omega)
    refine ⟨size_le hb, ite2 (fun h1 => ⟨rfl, fin _ ?_⟩) (fun h1 => ⟨rfl, fin _ ?_⟩)⟩
    · rw [nm, h1, Bool.true_and]
    · rw [nm, h1, Bool.false_and]
  · have e : onS pathS d = false := by
      cases d <;> first | rfl | skip
      rename_i z
      show (txtS z && _) = false
      rw [show txtS z = false from h0, Bool.false_and]
    rw [e] at k
    exact ⟨rfl, k⟩
abbrev sp_are_texts : PSp := spLook txtsD
theorem len_are_texts : Len 1 sp_are_texts := len_look
/-- reading of are_texts: slots 0:value 1:text, owned - -/
def w_are_texts (G : Gx) : WS := (wRet (wAndV (wCall (d2 (dIsi .tup)) (wCons (wName 0) (wCons (wC (.ty "tuple")) wNil))) (wCall (d1 dAll) (wCons (wV (nLc [1] (wItems (wName 0)) (wgName 1) wYes (wCallP sp_is_text (wCons (wName 1) wNil)))) wNil))))
theorem pure_are_texts (G : Gx) : Pure false 1 2 sp_are_texts (w_are_texts G) := by
  intro cells q eq hl hp
  obtain ⟨d, rfl, hb, k⟩ := hp
  cases d <;> first | (exact absurd (show 2000000 ≤ 1000000 from hb) (by decide)) | (exact ⟨rfl, rfl, k⟩) | skip
  rename_i ds
  obtain ⟨h1, h2⟩ := big_tup hb
  exact ⟨rfl, lc_f (fun d => .bl (onS txtS d)) (size_le h1) (fun d K1 K2 hd k => ⟨nd0, d, rfl, h2 d hd, k⟩) (all_m ⟨rfl, k⟩)⟩
def sp_is_second : PSp := fun cells q _ => ∃ (x : Str) (d : D), cells = [.fz (.str x), .fz d] ∧ big d ≤ 1000000 ∧ q (.bl (secondD x d)) cells
theorem len_is_second : Len 2 sp_is_second := fun cells q eq ⟨x, d, h, _⟩ => by rw [h]; rfl
def w_is_second_1 (G : Gx) : WS := (wRet (wIf (wB (wOp dEq (wName 0) (wC (.str (Str.ofString "move"))))) (wCallP sp_is_path (wCons (wName 1) wNil)) (wAndV (wOp dEq (wName 0) (wC (.str (Str.ofString "take")))) (wCallP sp_are_texts (wCons (wName 1) wNil)))))
/-- reading of is_second: slots 0:word 1:value, owned - -/
def w_is_second (G : Gx) : WS := (wSeq (wIfS (wB (wOp dEq (wName 0) (wC (.str (Str.ofString "put")))))
  (wRet (wCallP sp_is_text (wCons (wName 1) wNil)))
  wNext) (w_is_second_1 G))
theorem pure_is_second (G : Gx) : Pure false 2 2 sp_is_second (w_is_second G) := by
  intro cells q eq hl hp
  obtain ⟨x, d, rfl, hb, k⟩ := hp
  unfold secondD at k
  refine ite2 (fun h => ?_) (fun h => ite2 (fun h2 => ?_) (fun h2 => ite2 (fun h3 => ?_) (fun h3 => ?_)))
  · rw [if_pos (dec_t h)] at k; exact ⟨nd0, d, rfl, hb, rfl, k⟩
  · rw [if_neg (dec_f h), if_pos (dec_t h2)] at k; exact ⟨nd0, d, rfl, hb, rfl, k⟩
  · rw [if_neg (dec_f h), if_neg (dec_f h2), h3, Bool.true_and] at k; exact ⟨nd0, d, rfl, hb, rfl, k⟩
  · rw [if_neg (dec_f h), if_neg (dec_f h2), h3, Bool.false_and] at k; exact ⟨rfl, k⟩
abbrev sp_is_deed : PSp := spLook deedD
theorem len_is_deed : Len 1 sp_is_deed := len_look
def w_is_deed_2 (G : Gx) : WS := (wRet (wAndV (wCallP sp_is_path (wCons (wOp dIx (wName 0) (wC (.int 1))) wNil)) (wCallP sp_is_second (wCons (wOp dIx (wName 0) (wC (.int 0))) (wCons (wOp dIx (wName 0) (wC (.int 2))) wNil)))))
def w_is_deed_1 (G : Gx) : WS := (wSeq (wIfS (wB (wOp dEq (wCall (d1 dLen) (wCons (wName 0) wNil)) (wC (.int 2))))
  (wRet (wIf (wB (wOp dEq (wOp dIx (wName 0) (wC (.int 0))) (wC (.str (Str.ofString "use"))))) (wCallP sp_is_name (wCons (wOp dIx (wName 0) (wC (.int 1))) wNil)) (wAndV (wOp dEq (wOp dIx (wName 0) (wC (.int 0))) (wC (.str (Str.ofString "store")))) (wCallP sp_is_path (wCons (wOp dIx (wName 0) (wC (.int 1))) wNil)))))
  wNext) (w_is_deed_2 G))
/-- reading of is_deed: slots 0:value, owned - -/
def w_is_deed (G : Gx) : WS := (wSeq (wIfS (wOrT (wNotT (wTru (wCall (d2 (dIsi .tup)) (wCons (wName 0) (wCons (wC (.ty "tuple")) wNil))))) (wOrT (wB (wOp dNotIn (wCall (d1 dLen) (wCons (wName 0) wNil)) (wTup (wCons (wC (.int 2)) (wCons (wC (.int 3)) wNil))))) (wNotT (wTru (wCall (d2 (dIsi .str)) (wCons (wOp dIx (wName 0) (wC (.int 0))) (wCons (wC (.ty "str")) wNil)))))))
  (wRet (wC (.bl false)))
  wNext) (w_is_deed_1 G))
theorem in23 (n : Nat) : inV (.int (n : Nat)) [V.int 2, V.int 3] = decide (n = 2 ∨ n = 3) := by
  rw [Bool.eq_iff_iff]
  simp only [inV, eqV, List.any_cons, List.any_nil, Bool.or_false, Bool.or_eq_true, decide_eq_true_eq, beq_iff_eq]
  omega
theorem pure_is_deed (G : Gx) : Pure false 1 1 sp_is_deed (w_is_deed G) := by
  intro cells q eq hl hp
  obtain ⟨d, rfl, hb, k⟩ := hp
  cases d <;> first | (exact absurd (show 2000000 ≤ 1000000 from hb) (by decide)) | (exact ⟨rfl, rfl, k⟩) | skip
  rename_i ds
  obtain ⟨h1, h2⟩ := big_tup hb
  have fin : ∀ b, deedD (.tup ds) = b → q (.bl b) [.fz (.tup ds)] := fun b e => by subst e; exact k
  refine ⟨rfl, Nat.le_of_ble_eq_true rfl, rfl, rfl, ?_⟩
  show (if (!inV (.int (ds.length : Nat)) [V.int 2, V.int 3]) = true then _ else _)
  rw [in23]
  refine ite2 (fun h => ⟨rfl, fin _ ?_⟩) (fun h => ?_)
  · simp at h
    match ds, h with
    | [], _ => rfl
    | [d0], _ => cases d0 <;> rfl
    | [_, _], h => simp at h
    | [_, _, _], h => simp at h
    | d0 :: _ :: _ :: _ :: _, _ => cases d0 <;> rfl
  · have sh : (∃ a b, ds = [a, b]) ∨ ∃ a b c, ds = [a, b, c] := by
      simp at h
      match ds, h with
      | [a, b], _ => exact .inl ⟨a, b, rfl⟩
      | [a, b, c], _ => exact .inr ⟨a, b, c, rfl⟩
      | [], h => simp at h
      | [_], h => simp at h
      | _ :: _ :: _ :: _ :: _, h => simp at h
    rcases sh with ⟨a, b, rfl⟩ | ⟨a, b, c, rfl⟩
    · have ha := h2 a (by simp)
      have hb' := h2 b (by simp)
      refine ⟨a, rfl, rfl, ?_⟩
      cases a <;> first | (exact absurd (show 2000000 ≤ 1000000 from ha) (by decide)) | (exact ⟨rfl, fin _ rfl⟩) | skip
      rename_i w
      refine ⟨_, rfl, ite2 (fun hu => ?_) (fun hu => ⟨_, rfl, ite2 (fun hs => ?_) (fun hs => ?_)⟩)⟩
      · refine ⟨_, rfl, nd0, b, rfl, hb', rfl, fin _ ?_⟩
        show (if w = Str.ofString "use" then _ else _) = _
        rw [if_pos (dec_t hu)]
      · refine ⟨_, rfl, nd0, b, rfl, hb', rfl, fin _ ?_⟩
        show (if w = Str.ofString "use" then _ else _) = _
        rw [if_neg (dec_f hu), hs, Bool.true_and]
      · refine ⟨rfl, fin _ ?_⟩
        show (if w = Str.ofString "use" then _ else _) = _
        rw [if_neg (dec_f hu), hs, Bool.false_and]
    · have ha := h2 a (by simp)
      have hb' := h2 b (by simp)
      have hc' := h2 c (by simp)
      refine ⟨a, rfl, rfl, ?_⟩
      cases a <;> first | (exact absurd (show 2000000 ≤ 1000000 from ha) (by decide)) | (exact ⟨rfl, fin _ rfl⟩) | skip
      rename_i w
      refine ⟨_, rfl, nd0, b, rfl, hb', ite2 (fun hq => ?_) (fun hq => ⟨rfl, fin _ ?_⟩)⟩
      · refine ⟨_, rfl, _, rfl, nd0, w, c, rfl, hc', rfl, fin _ ?_⟩
        show (onS pathS b && secondD w c) = _
        rw [hq, Bool.true_and]
      · show (onS pathS b && secondD w c) = _
        rw [hq, Bool.false_and]
abbrev sp_is_history : PSp := spLook histD
theorem len_is_history : Len 1 sp_is_history := len_look
/-- reading of is_history: slots 0:value 1:deed, owned - -/
def w_is_history (G : Gx) : WS := (wRet (wAndV (wCall (d2 (dIsi .tup)) (wCons (wName 0) (wCons (wC (.ty "tuple")) wNil))) (wAndV (wOp dLe (wCall (d1 dLen) (wCons (wName 0) wNil)) (wC (.int 40))) (wCall (d1 dAll) (wCons (wV (nLc [1] (wItems (wName 0)) (wgName 1) wYes (wCallP sp_is_deed (wCons (wName 1) wNil)))) wNil)))))
theorem pure_is_history (G : Gx) : Pure false 1 2 sp_is_history (w_is_history G) := by
  intro cells q eq hl hp
  obtain ⟨d, rfl, hb, k⟩ := hp
  cases d <;> first | (exact absurd (show 2000000 ≤ 1000000 from hb) (by decide)) | (exact ⟨rfl, rfl, k⟩) | skip
  rename_i ds
  obtain ⟨h1, h2⟩ := big_tup hb
  have fin : ∀ b, histD (.tup ds) = b → q (.bl b) [.fz (.tup ds)] := fun b e => by subst e; exact k
  have e : histD (.tup ds) = (decide ((ds.length : Int) ≤ 40) && ds.all deedD) := by
    show (decide (ds.length ≤ 40) && _) = _
    congr 1
    apply decide_eq_decide.mpr; omega
  refine ⟨rfl, ite2 (fun h => ?_) (fun h => ⟨rfl, fin _ (by rw [e, h]; rfl)⟩)⟩
  refine lc_f (fun d => .bl (deedD d)) (size_le h1) (fun d K1 K2 hd k => ⟨nd0, d, rfl, h2 d hd, k⟩) (all_m ⟨rfl, fin _ ?_⟩)
  rw [e, h, Bool.true_and]
section
variable {G : Gx} {P : Program} {wd : World} {mg : Str → Option Value} {base : Heap}
theorem ok_is_text (T : Tx G wd mg) : PFnK G P wd mg base CX0 1 "is_text" 1 false sp_is_text := by
  refine ⟨⟨T.a_is_text, T.d_is_text, ps_is_text, fnPk T.F_is_text sc_is_text (by decide) (w := w_is_text G) (fun cdv A outer s H E hr => ?_) (pure_is_text G), T.m_is_text, T.F_is_text.kp, T.b_is_text⟩, len_is_text⟩
  exact (py_one (py_ret (px_and (px_callB isiK (isi_s .str) rfl T.n_isinstance (by decide +kernel) (pxa_cons (px_name 0) (pxa_cons (px_ty rfl T.n_str (by decide +kernel)) pxa_nil))) (px_one (px_callB (all_ok rfl) all_s rfl T.n_all (by decide +kernel) (pxa_cons (pxn (pxn_lc (own := [("sign", 1)]) (by decide) rfl sc_is_text.nd (pxi_any (px_name 0)) (blkOk_by (N := nm_is_text) (sc := defScope s_is_text) (by decide +kernel)) (fun _ _ _ _ _ => (pxg_name 1 sc_is_text.nd rfl (Or.inl rfl))) (fun _ _ _ _ _ => pxts_nil) (fun _ _ _ _ _ => (px_cmp (in_ok hr.units65) in_s (px_name 1) (px_gstr rfl T.m_SIGNS) (by rfl))))) pxa_nil))))))
theorem ok_is_name (T : Tx G wd mg) : PFnK G P wd mg base CX0 1 "is_name" 1 false sp_is_name := by
  refine ⟨⟨T.a_is_name, T.d_is_name, ps_is_name, fnPk T.F_is_name sc_is_name (by decide) (w := w_is_name G) (fun cdv A outer s H E hr => ?_) (pure_is_name G), T.m_is_name, T.F_is_name.kp, T.b_is_name⟩, len_is_name⟩
  exact (py_cons (py_if (pxw (pxw_or (pxt_not (pxt_val (px_callB isiK (isi_s .str) rfl T.n_isinstance (by decide +kernel) (pxa_cons (px_name 0) (pxa_cons (px_ty rfl T.n_str (by decide +kernel)) pxa_nil))))) (pxw_or1 (pxt_not (pxt_chain le_ok le_s le_ok le_s px_int (px_callB len_anyK len_s rfl T.n_len (by decide +kernel) (pxa_cons (px_name 0) pxa_nil)) (px_gint rfl T.m_MAX_NAME))))))
  (py_one (py_ret px_bl))
  py_nil)
  (py_one (py_ret (px_callB (all_ok rfl) all_s rfl T.n_all (by decide +kernel) (pxa_cons (pxn (pxn_lc (own := [("letter", 1)]) (by decide) rfl sc_is_name.nd (pxi_any (px_name 0)) (blkOk_by (N := nm_is_name) (sc := defScope s_is_name) (by decide +kernel)) (fun _ _ _ _ _ => (pxg_name 1 sc_is_name.nd rfl (Or.inl rfl))) (fun _ _ _ _ _ => pxts_nil) (fun _ _ _ _ _ => (px_cmp (in_ok hr.units65) in_s (px_name 1) (px_gstr rfl T.m_LETTERS) (by rfl))))) pxa_nil)))))
theorem ok_is_path (T : Tx G wd mg) : PFnK G P wd mg base CX0 2 "is_path" 1 false sp_is_path := by
  have G_is_text := ok_is_text (P := P) (wd := wd) (base := base) T
  refine ⟨⟨T.a_is_path, T.d_is_path, ps_is_path, fnPk T.F_is_path sc_is_path (by decide) (w := w_is_path G) (fun cdv A outer s H E hr => ?_) (pure_is_path G), T.m_is_path, T.F_is_path.kp, T.b_is_path⟩, len_is_path⟩
  exact (py_one (py_ret (px_and (px_callPk G_is_text (hr.mono (by decide)) rfl (pxa_cons (px_name 0) pxa_nil)) (px_one (px_chain le_ok le_s le_ok le_s px_int (px_callB len_anyK len_s rfl T.n_len (by decide +kernel) (pxa_cons (px_name 0) pxa_nil)) (px_gint rfl T.m_MAX_PATH))))))
theorem ok_are_texts (T : Tx G wd mg) : PFnK G P wd mg base CX0 2 "are_texts" 1 false sp_are_texts := by
  have G_is_text := ok_is_text (P := P) (wd := wd) (base := base) T
  refine ⟨⟨T.a_are_texts, T.d_are_texts, ps_are_texts, fnPk T.F_are_texts sc_are_texts (by decide) (w := w_are_texts G) (fun cdv A outer s H E hr => ?_) (pure_are_texts G), T.m_are_texts, T.F_are_texts.kp, T.b_are_texts⟩, len_are_texts⟩
  exact (py_one (py_ret (px_and (px_callB isiK (isi_s .tup) rfl T.n_isinstance (by decide +kernel) (pxa_cons (px_name 0) (pxa_cons (px_ty rfl T.n_tuple (by decide +kernel)) pxa_nil))) (px_one (px_callB (all_ok rfl) all_s rfl T.n_all (by decide +kernel) (pxa_cons (pxn (pxn_lc (own := [("text", 1)]) (by decide) rfl sc_are_texts.nd (pxi_any (px_name 0)) (blkOk_by (N := nm_are_texts) (sc := defScope s_are_texts) (by decide +kernel)) (fun _ _ _ _ _ => (pxg_name 1 sc_are_texts.nd rfl (Or.inl rfl))) (fun _ _ _ _ _ => pxts_nil) (fun _ _ _ _ _ => (px_callPk G_is_text (hr.mono (by decide)) rfl (pxa_cons (px_name 1) pxa_nil))))) pxa_nil))))))
theorem ok_is_second (T : Tx G wd mg) : PFnK G P wd mg base CX0 3 "is_second" 2 false sp_is_second := by
  have G_is_text := ok_is_text (P := P) (wd := wd) (base := base) T
  have G_is_path := ok_is_path (P := P) (wd := wd) (base := base) T
  have G_are_texts := ok_are_texts (P := P) (wd := wd) (base := base) T
  refine ⟨⟨T.a_is_second, T.d_is_second, ps_is_second, fnPk T.F_is_second sc_is_second (by decide) (w := w_is_second G) (fun cdv A outer s H E hr => ?_) (pure_is_second G), T.m_is_second, T.F_is_second.kp, T.b_is_second⟩, len_is_second⟩
  exact (py_cons (py_if (pxt_cmp (eq_ok hr.units) eq_s (px_name 0) (px_gstr rfl T.m_PUT) (nomark _))
  (py_one (py_ret (px_callPk G_is_text (hr.mono (by decide)) rfl (pxa_cons (px_name 1) pxa_nil))))
  py_nil)
  (py_one (py_ret (px_if (pxt_cmp (eq_ok hr.units) eq_s (px_name 0) (px_gstr rfl T.m_MOVE) (nomark _)) (px_callPk G_is_path (hr.mono (by decide)) rfl (pxa_cons (px_name 1) pxa_nil)) (px_and (px_cmp (eq_ok hr.units) eq_s (px_name 0) (px_gstr rfl T.m_TAKE_histories) (nomark _)) (px_one (px_callPk G_are_texts (hr.mono (by decide)) rfl (pxa_cons (px_name 1) pxa_nil))))))))
theorem ok_is_deed (T : Tx G wd mg) : PFnK G P wd mg base CX0 4 "is_deed" 1 false sp_is_deed := by
  have G_is_path := ok_is_path (P := P) (wd := wd) (base := base) T
  have G_is_second := ok_is_second (P := P) (wd := wd) (base := base) T
  have G_is_name := ok_is_name (P := P) (wd := wd) (base := base) T
  refine ⟨⟨T.a_is_deed, T.d_is_deed, ps_is_deed, fnPk T.F_is_deed sc_is_deed (by decide) (w := w_is_deed G) (fun cdv A outer s H E hr => ?_) (pure_is_deed G), T.m_is_deed, T.F_is_deed.kp, T.b_is_deed⟩, len_is_deed⟩
  exact (py_cons (py_if (pxw (pxw_or (pxt_not (pxt_val (px_callB isiK (isi_s .tup) rfl T.n_isinstance (by decide +kernel) (pxa_cons (px_name 0) (pxa_cons (px_ty rfl T.n_tuple (by decide +kernel)) pxa_nil))))) (pxw_or (pxt_cmp (notIn_ok hr.units65) notIn_s (px_callB len_anyK len_s rfl T.n_len (by decide +kernel) (pxa_cons (px_name 0) pxa_nil)) (px_tup (pxa_cons px_int (pxa_cons px_int pxa_nil))) (by rfl)) (pxw_or1 (pxt_not (pxt_val (px_callB isiK (isi_s .str) rfl T.n_isinstance (by decide +kernel) (pxa_cons (px_ix ix_ok ix_s (px_name 0) px_int (fun _ _ => rfl)) (pxa_cons (px_ty rfl T.n_str (by decide +kernel)) pxa_nil)))))))))
  (py_one (py_ret px_bl))
  py_nil)
  (py_cons (py_if (pxt_cmp (eq_ok hr.units) eq_s (px_callB len_anyK len_s rfl T.n_len (by decide +kernel) (pxa_cons (px_name 0) pxa_nil)) px_int (nomark _))
  (py_one (py_ret (px_if (pxt_cmp (eq_ok hr.units) eq_s (px_ix ix_ok ix_s (px_name 0) px_int (fun _ _ => rfl)) (px_gstr rfl T.m_USE) (nomark _)) (px_callPk G_is_name (hr.mono (by decide)) rfl (pxa_cons (px_ix ix_ok ix_s (px_name 0) px_int (fun _ _ => rfl)) pxa_nil)) (px_and (px_cmp (eq_ok hr.units) eq_s (px_ix ix_ok ix_s (px_name 0) px_int (fun _ _ => rfl)) (px_gstr rfl T.m_STORE) (nomark _)) (px_one (px_callPk G_is_path (hr.mono (by decide)) rfl (pxa_cons (px_ix ix_ok ix_s (px_name 0) px_int (fun _ _ => rfl)) pxa_nil)))))))
  py_nil)
  (py_one (py_ret (px_and (px_callPk G_is_path (hr.mono (by decide)) rfl (pxa_cons (px_ix ix_ok ix_s (px_name 0) px_int (fun _ _ => rfl)) pxa_nil)) (px_one (px_callPk G_is_second (hr.mono (by decide)) rfl (pxa_cons (px_ix ix_ok ix_s (px_name 0) px_int (fun _ _ => rfl)) (pxa_cons (px_ix ix_ok ix_s (px_name 0) px_int (fun _ _ => rfl)) pxa_nil)))))))))
theorem ok_is_history (T : Tx G wd mg) : PFnK G P wd mg base CX0 5 "is_history" 1 false sp_is_history := by
  have G_is_deed := ok_is_deed (P := P) (wd := wd) (base := base) T
  refine ⟨⟨T.a_is_history, T.d_is_history, ps_is_history, fnPk T.F_is_history sc_is_history (by decide) (w := w_is_history G) (fun cdv A outer s H E hr => ?_) (pure_is_history G), T.m_is_history, T.F_is_history.kp, T.b_is_history⟩, len_is_history⟩
  exact (py_one (py_ret (px_and (px_callB isiK (isi_s .tup) rfl T.n_isinstance (by decide +kernel) (pxa_cons (px_name 0) (pxa_cons (px_ty rfl T.n_tuple (by decide +kernel)) pxa_nil))) (px_and (px_cmp le_ok le_s (px_callB len_anyK len_s rfl T.n_len (by decide +kernel) (pxa_cons (px_name 0) pxa_nil)) (px_gint rfl T.m_MAX_DEEDS) (nomark _)) (px_one (px_callB (all_ok rfl) all_s rfl T.n_all (by decide +kernel) (pxa_cons (pxn (pxn_lc (own := [("deed", 1)]) (by decide) rfl sc_is_history.nd (pxi_any (px_name 0)) (blkOk_by (N := nm_is_history) (sc := defScope s_is_history) (by decide +kernel)) (fun _ _ _ _ _ => (pxg_name 1 sc_is_history.nd rfl (Or.inl rfl))) (fun _ _ _ _ _ => pxts_nil) (fun _ _ _ _ _ => (px_callPk G_is_deed (hr.mono (by decide)) rfl (pxa_cons (px_name 1) pxa_nil))))) pxa_nil)))))))
end
end Pu
namespace Pu
open PySem PySem.Spec PyProof.Rows L2 Lk Evl StX

open My
theorem len_eqW (z : Str) : (eqW z).length = z.length + 1 := by
  unfold eqW
  rw [len_app, show (Str.ofString "=").length = 1 by decide +kernel]; omega
theorem word_weight {e : Deed} {z : Str} (h : z ∈ e.words) : z.length ≤ e.weight := by
  unfold Deed.weight
  have : ∀ {l : List Str}, z ∈ l → z.length ≤ (l.map (·.length)).sum := by
    intro l hl
    induction l with
    | nil => cases hl
    | cons x l ih =>
      rw [List.map_cons, List.sum_cons]
      rcases List.mem_cons.mp hl with rfl | hl
      · omega
      · have := ih hl; omega
  have := this h
  omega
theorem words_weight (e : Deed) : e.words.length ≤ e.weight := by unfold Deed.weight; omega
theorem join_len (s : Str) (ys : List Str) : (Txt.join s ys).length ≤ (ys.map (·.length)).sum + ys.length * s.length := by
  rw [TL.join_eq]
  induction ys with
  | nil => show (0 : Nat) ≤ _; omega
  | cons x ys ih =>
    cases ys with
    | nil =>
      show x.length ≤ _
      simp
    | cons y r =>
      show (x ++ s ++ Str.join s (y :: r)).length ≤ _
      rw [len_app, len_app]
      simp only [List.map_cons, List.sum_cons, List.length_cons, Nat.add_mul, Nat.one_mul] at ih ⊢
      omega
theorem line_len (e : Deed) : e.line.length ≤ e.weight := by
  have := join_len (Str.ofString " ") e.words
  rw [show (Str.ofString " ").length = 1 by decide +kernel, Nat.mul_one] at this
  exact this
theorem lines_len : ∀ es : List Deed, ((es.map Deed.line).map (·.length)).sum + es.length ≤ weights es + es.length
  | [] => Nat.le_refl _
  | e :: es => by
    have h1 := line_len e
    have h2 := lines_len es
    simp only [weights, List.map_cons, List.sum_cons, List.length_cons] at h2 ⊢
    omega
theorem weight_mem {e : Deed} : ∀ {es : List Deed}, e ∈ es → e.weight ≤ weights es
  | x :: es, h => by
    simp only [weights, List.map_cons, List.sum_cons]
    rcases List.mem_cons.mp h with rfl | h
    · omega
    · have := weight_mem h
      unfold weights at this
      omega
def sp_is_text_word : PSp := fun cells q _ => ∃ z : Str, cells = [.fz (.str z)] ∧ z.length ≤ 1000000 ∧ q (.bl (twS z)) cells
theorem len_is_text_word : Len 1 sp_is_text_word := fun cells q eq ⟨z, h, _⟩ => by rw [h]; rfl
/-- reading of is_text_word: slots 0:word, owned - -/
def w_is_text_word (G : Gx) : WS := (wRet (wAndV (wOp dEq (wCut (wName 0) wNo (wSome (wC (.int 1)))) (wC (.str (Str.ofString "=")))) (wCallP sp_is_text (wCons (wCut (wName 0) (wSome (wC (.int 1))) wNo) wNil))))
theorem pure_is_text_word (G : Gx) : Pure false 1 1 sp_is_text_word (w_is_text_word G) := by
  intro cells q eq hl hp
  obtain ⟨z, rfl, hz, k⟩ := hp
  have fin : ∀ b, twS z = b → q (.bl b) [.fz (.str z)] := fun b e => by subst e; exact k
  refine ⟨size_le hz, ite2 (fun h => ⟨size_le hz, nd0, .str (cut1 z), rfl, Nat.le_trans (len_cut z _ _) hz, rfl, fin _ ?_⟩) (fun h => ⟨rfl, fin _ ?_⟩)⟩
  · unfold twS; rw [h, Bool.true_and]; rfl
  · unfold twS; rw [h, Bool.false_and]
def sp_deed_words : PSp := fun cells q _ => ∃ e : Deed, cells = [.fz e.data] ∧ e.weight ≤ 1000000 ∧ q (.lst (e.words.map D.str)) cells
theorem len_deed_words : Len 1 sp_deed_words := fun cells q eq ⟨z, h, _⟩ => by rw [h]; rfl
def w_deed_words_3 (G : Gx) : WS := (wRet (wLst (wCons (wName 1) (wStar (wV (nLc [3] (wItems (wName 2)) (wgName 3) wYes (wOp dAdd (wC (.str (Str.ofString "="))) (wName 3)))) wNil))))
def w_deed_words_2 (G : Gx) : WS := (wSeq (wIfS (wB (wOp dEq (wName 1) (wC (.str (Str.ofString "take")))))
  (wRet (wLst (wCons (wName 1) (wCons (wOp dAdd (wC (.str (Str.ofString "="))) (wOp dIx (wName 2) (wC (.int 0)))) (wStar (wV (nLc [4] (wItems (wOp dIx (wName 2) (wC (.int 1)))) (wgName 4) wYes (wOp dAdd (wC (.str (Str.ofString "="))) (wName 4)))) wNil)))))
  wNext) (w_deed_words_3 G))
def w_deed_words_1 (G : Gx) : WS := (wSeq (wIfS (wB (wOp dEq (wName 1) (wC (.str (Str.ofString "use")))))
  (wRet (wLst (wCons (wName 1) (wStar (wName 2) wNil))))
  wNext) (w_deed_words_2 G))
/-- reading of deed_words: slots 0:deed 1:word 2:parts 3:text 4:filling, owned - -/
def w_deed_words (G : Gx) : WS := (wSeq (wAsg [1, 2] (wName 0) (wgStar (wgCons (wgName 1) (wgCons (wgName 2) wgNil)))) (w_deed_words_1 G))
theorem pure_deed_words (G : Gx) : Pure false 1 5 sp_deed_words (w_deed_words G) := by
  intro cells q eq hl hp
  obtain ⟨e, rfl, hw, k⟩ := hp
  have hww := words_weight e
  have hwm : ∀ z ∈ e.words, z.length ≤ 1000000 := fun z hz => Nat.le_trans (word_weight hz) hw
  have e1 : (Str.ofString "=").length = 1 := by decide +kernel
  have add : ∀ z, eqW z ∈ e.words → (Str.ofString "=").length + z.length ≤ sizeLine := fun z hz => by
    have := hwm _ hz
    rw [len_eqW] at this
    rw [e1]; exact size_le (by omega)
  cases e with
  | use n => exact ⟨npl rfl, rfl, Nat.le_of_ble_eq_true rfl, rfl, k⟩
  | store p =>
    refine ⟨npl rfl, rfl, ?_⟩
    exact lc_m (xs := [p]) (g := D.str) (fun z => .str (eqW z)) (Nat.le_of_ble_eq_true rfl) (fun z K1 K2 hz k => ⟨add z (by rw [List.mem_singleton.mp hz]; simp [Deed.words]), k⟩) ⟨Nat.le_of_ble_eq_true rfl, rfl, k⟩
  | put p t =>
    refine ⟨npl rfl, rfl, ?_⟩
    exact lc_m (xs := [p, t]) (g := D.str) (fun z => .str (eqW z)) (Nat.le_of_ble_eq_true rfl) (fun z K1 K2 hz k => ⟨add z (by simp at hz; rcases hz with rfl | rfl <;> simp [Deed.words]), k⟩) ⟨Nat.le_of_ble_eq_true rfl, rfl, k⟩
  | move p t =>
    refine ⟨npl rfl, rfl, ?_⟩
    exact lc_m (xs := [p, t]) (g := D.str) (fun z => .str (eqW z)) (Nat.le_of_ble_eq_true rfl) (fun z K1 K2 hz k => ⟨add z (by simp at hz; rcases hz with rfl | rfl <;> simp [Deed.words]), k⟩) ⟨Nat.le_of_ble_eq_true rfl, rfl, k⟩
  | take p fs =>
    refine ⟨npl rfl, rfl, ?_⟩
    simp only [Deed.words, List.length_cons, List.length_map] at hww
    refine ⟨_, rfl, add p (by simp [Deed.words]), _, rfl, ?_⟩
    refine lc_m (xs := fs) (g := D.str) (fun z => .str (eqW z)) (size_le (by omega)) (fun z K1 K2 hz k => ⟨add z (by simp only [Deed.words, List.mem_cons, List.mem_map]; exact .inr (.inr ⟨z, hz, rfl⟩)), k⟩) (vals_cons (vals_cons (vals_all ⟨?_, rfl, ?_⟩)))
    · simp only [List.length_append, List.length_map, List.length_cons, List.length_nil]
      exact size_le (by omega)
    · simp only [Deed.words, List.map_cons, List.map_map] at k
      exact k
def sp_write_history : PSp := fun cells q eq => ∃ d : D, cells = [.fz d] ∧ big d ≤ 1000000 ∧ (histD d = true → ∀ es : List Deed, d = .tup (es.map Deed.data) → (∀ e ∈ es, e.ok) → es.length ≤ 40 → weights es ≤ 1000000 ∧ q (.str (hText es)) cells) ∧ (histD d = false → eq (Str.ofString "InvalidOperation") [] [] cells)
theorem len_write_history : Len 1 sp_write_history := fun cells q eq ⟨z, h, _⟩ => by rw [h]; rfl
def w_write_history_1 (G : Gx) : WS := (wRet (wMeth "str" (m1 dJoin) (wC (.str (Str.ofString "\n"))) (wCons (wV (nLc [1] (wItems (wName 0)) (wgName 1) wYes (wMeth "str" (m1 dJoin) (wC (.str (Str.ofString " "))) (wCons (wCallP sp_deed_words (wCons (wName 1) wNil)) wNil)))) wNil)))
/-- reading of write_history: slots 0:history 1:deed, owned - -/
def w_write_history (G : Gx) : WS := (wSeq (wIfS (wNotT (wTru (wCallP sp_is_history (wCons (wName 0) wNil))))
  (wRaise "InvalidOperation")
  wNext) (w_write_history_1 G))
theorem hist_inv {d : D} (h : histD d = true) : ∃ es : List Deed, d = .tup (es.map Deed.data) ∧ (∀ e ∈ es, e.ok) ∧ es.length ≤ 40 := by
  cases d with
  | tup ds =>
    have h' : (decide (ds.length ≤ 40) && ds.all deedD) = true := h
    rw [Bool.and_eq_true, decide_eq_true_eq] at h'
    obtain ⟨es, rfl, hes⟩ := deeds_inv h'.2
    exact ⟨es, rfl, hes, by simpa using h'.1⟩
  | _ => cases h
theorem pure_write_history (G : Gx) : PureX false 1 2 sp_write_history (w_write_history G) := by
  intro cells q eq hl hp
  obtain ⟨d, rfl, hb, k1, k2⟩ := hp
  refine ⟨nd0, d, rfl, hb, ite2 (fun h => ?_) (fun h => ?_)⟩
  · exact k2 (by simpa using h)
  · have h' : histD d = true := by simpa using h
    obtain ⟨es, rfl, hes, h40⟩ := hist_inv h'
    obtain ⟨hw, k⟩ := k1 h' es rfl hes h40
    refine ⟨rfl, lc_m (xs := es) (g := Deed.data) (fun e => .str e.line) (size_le (by omega)) (fun e K1 K2 he k => ?_) ?_⟩
    · have hew := Nat.le_trans (weight_mem he) hw
      refine ⟨rfl, nd0, e, rfl, hew, join_m ?_ k⟩
      have : (e.words.map (·.length)).sum + e.words.length = e.weight := rfl
      rw [show (Str.ofString " ").length = 1 by decide +kernel]
      omega
    · rw [show (es.map fun e => D.str e.line) = (es.map Deed.line).map D.str by rw [List.map_map]; rfl]
      refine join_m ?_ ⟨rfl, k⟩
      have := lines_len es
      rw [show (Str.ofString "\n").length = 1 by decide +kernel, List.length_map]
      omega
section
variable {G : Gx} {P : Program} {wd : World} {mg : Str → Option Value} {base : Heap}
theorem ok_ParseError___init__ (T : Tx G wd mg) : FnOk P wd G.K mg base CX0 1 T.a_ParseError___init__ T.d_ParseError___init__ ps_ParseError___init__ (spInit1 (G.cl "ParseError") "number") := by
  refine T.F_ParseError___init__.ok sc_ParseError___init__ (fun vs H Q E h => ?_) (fun cdv A outer s H vs Q E hr h => ?_)
  · obtain ⟨a, y, rfl, _⟩ := h
    rfl
  · obtain ⟨a, y, rfl, ha, q⟩ := h
    exact ⟨_, pss_one (ps_ost (pv 0) (pv 1)), _, rfl, _, rfl, a, G.cl "ParseError", rfl, T.o_ParseError, T.no_ParseError, .inl ⟨ha, fun dx h1 h2 => q dx h1 h2⟩⟩
theorem ok_is_text_word (T : Tx G wd mg) : PFnK G P wd mg base CX0 2 "is_text_word" 1 false sp_is_text_word := by
  have G_is_text := ok_is_text (P := P) (wd := wd) (base := base) T
  refine ⟨⟨T.a_is_text_word, T.d_is_text_word, ps_is_text_word, fnPk T.F_is_text_word sc_is_text_word (by decide) (w := w_is_text_word G) (fun cdv A outer s H E hr => ?_) (pure_is_text_word G), T.m_is_text_word, T.F_is_text_word.kp, T.b_is_text_word⟩, len_is_text_word⟩
  exact (py_one (py_ret (px_and (px_cmp (eq_ok hr.units) eq_s (px_cut (px_name 0) pxo_none (pxo_some px_int)) px_str (nomark _)) (px_one (px_callPk G_is_text (hr.mono (by decide)) rfl (pxa_cons (px_cut (px_name 0) (pxo_some px_int) pxo_none) pxa_nil))))))
theorem ok_deed_words (T : Tx G wd mg) : PFnK G P wd mg base CX0 1 "deed_words" 1 false sp_deed_words := by
  refine ⟨⟨T.a_deed_words, T.d_deed_words, ps_deed_words, fnPk T.F_deed_words sc_deed_words (by decide) (w := w_deed_words G) (fun cdv A outer s H E hr => ?_) (pure_deed_words G), T.m_deed_words, T.F_deed_words.kp, T.b_deed_words⟩, len_deed_words⟩
  exact (py_cons (py_asg (is := [1, 2]) (px_name 0) (pxg_star rfl (pxgs_cons (pxg_name 1 sc_deed_words.nd rfl (Or.inl rfl)) (pxgs_cons (pxg_name 2 sc_deed_words.nd rfl (Or.inl rfl)) pxgs_nil))))
  (py_cons (py_if (pxt_cmp (eq_ok hr.units) eq_s (px_name 1) px_str (nomark _))
  (py_one (py_ret (px_lst (pxa_cons (px_name 1) (pxa_star (px_name 2) pxa_nil)))))
  py_nil)
  (py_cons (py_if (pxt_cmp (eq_ok hr.units) eq_s (px_name 1) (px_gstr rfl T.m_TAKE_formats) (nomark _))
  (py_one (py_ret (px_lst (pxa_cons (px_name 1) (pxa_cons (px_op add_ok add_s px_str (px_ix ix_ok ix_s (px_name 2) px_int (fun _ _ => rfl))) (pxa_star (pxn (pxn_lc (own := [("filling", 4)]) (by decide) rfl sc_deed_words.nd (pxi_any (px_ix ix_ok ix_s (px_name 2) px_int (fun _ _ => rfl))) (blkOk_by (N := nm_deed_words) (sc := defScope s_deed_words) (by decide +kernel)) (fun _ _ _ _ _ => (pxg_name 4 sc_deed_words.nd rfl (Or.inl rfl))) (fun _ _ _ _ _ => pxts_nil) (fun _ _ _ _ _ => (px_op add_ok add_s px_str (px_name 4))))) pxa_nil))))))
  py_nil)
  (py_one (py_ret (px_lst (pxa_cons (px_name 1) (pxa_star (pxn (pxn_lc (own := [("text", 3)]) (by decide) rfl sc_deed_words.nd (pxi_any (px_name 2)) (blkOk_by (N := nm_deed_words) (sc := defScope s_deed_words) (by decide +kernel)) (fun _ _ _ _ _ => (pxg_name 3 sc_deed_words.nd rfl (Or.inl rfl))) (fun _ _ _ _ _ => pxts_nil) (fun _ _ _ _ _ => (px_op add_ok add_s px_str (px_name 3))))) pxa_nil))))))))
theorem ok_write_history (T : Tx G wd mg) : PFnK G P wd mg base (L2.CX P wd) 6 "write_history" 1 false sp_write_history := by
  have G_is_history := ok_is_history (P := P) (wd := wd) (base := base) T
  have G_deed_words := ok_deed_words (P := P) (wd := wd) (base := base) T
  refine ⟨⟨T.a_write_history, T.d_write_history, ps_write_history, fnXk T.F_write_history sc_write_history (by decide) (w := w_write_history G) (fun cdv A outer s H E hr => ?_) (pure_write_history G), T.m_write_history, T.F_write_history.kp, T.b_write_history⟩, len_write_history⟩
  exact (py_cons (py_if (pxt_not (pxt_val (px_callPk G_is_history (hr.mono (by decide)) rfl (pxa_cons (px_name 0) pxa_nil))))
  (py_one (py_raise "InvalidOperation" rfl (takes_of rfl rfl rfl rfl) T.x_InvalidOperation T.m_InvalidOperation T.k_InvalidOperation (raises_own T.b_InvalidOperation T.t_InvalidOperation) rfl))
  py_nil)
  (py_one (py_ret (px_meth PySem.F.plainAttrs_str PySem.F.slot_str_join PySem.F.type_str_join (fun M H v d => tyD_str) joinK join_s px_str (pxa_cons (pxn (pxn_lc (own := [("deed", 1)]) (by decide) rfl sc_write_history.nd (pxi_any (px_name 0)) (blkOk_by (N := nm_write_history) (sc := defScope s_write_history) (by decide +kernel)) (fun _ _ _ _ _ => (pxg_name 1 sc_write_history.nd rfl (Or.inl rfl))) (fun _ _ _ _ _ => pxts_nil) (fun _ _ _ _ _ => (px_meth PySem.F.plainAttrs_str PySem.F.slot_str_join PySem.F.type_str_join (fun M H v d => tyD_str) joinK join_s px_str (pxa_cons (px_callPk G_deed_words (hr.mono (by decide)) rfl (pxa_cons (px_name 1) pxa_nil)) pxa_nil))))) pxa_nil)))))
end
end Pu
namespace Pu
open PySem PySem.Spec PyProof.Rows L2 Lk Evl StX

open My
theorem cutA_1 {α : Type} (x : α) (xs : List α) : cutA (x :: xs) (some 1) none = xs := by
  unfold cutA HT.sIx
  simp
theorem at0 {α : Type} {x : α} {xs : List α} : atI (x :: xs) 0 = some x := atI_nat (l := x :: xs) (i := 0) (by simp)
theorem sum_mem {z : Str} : ∀ {l : List Str}, z ∈ l → z.length ≤ (l.map (·.length)).sum
  | x :: l, h => by
    rw [List.map_cons, List.sum_cons]
    rcases List.mem_cons.mp h with rfl | h
    · omega
    · have := sum_mem h; omega
theorem txt_ok {z : Str} (h : txtS z = true) : PyData.strOk z = true := by
  have h2 : ∀ c ∈ sigs, c < 0x110000 := by decide +kernel
  unfold PyData.strOk
  rw [← Array.all_toList, List.all_eq_true]
  intro c hc
  exact decide_eq_true (h2 c (of_decide_eq_true (List.all_eq_true.mp h c hc)))
theorem pys_strs : ∀ zs : List Str, D.pys (zs.map D.str) = some (zs.map PyData.str)
  | [] => rfl
  | z :: zs => by rw [List.map_cons, D.pys, pys_strs zs]; rfl
theorem py_strs (zs : List Str) : (D.lst (zs.map D.str)).py = some (.list (zs.map PyData.str)) := by rw [D.py, pys_strs]; rfl
theorem strs_shaped {zs : List Str} (h : ∀ z ∈ zs, PyData.strOk z = true) : SeqAt.shaped (.list (zs.map PyData.str)) = true := by
  have h1 : ∀ zs : List Str, (∀ z ∈ zs, PyData.strOk z = true) → PyData.canLayAll0 (zs.map PyData.str) = true := by
    intro zs h
    induction zs with
    | nil => simp [PyData.canLayAll0]
    | cons z zs ih => simp [PyData.canLayAll0, PyData.canLay0, h z List.mem_cons_self, ih fun y hy => h y (List.mem_cons_of_mem _ hy)]
  have h2 : ∀ zs : List Str, PyData.depthAll (zs.map PyData.str) ≤ 1 := by
    intro zs
    induction zs with
    | nil => simp [PyData.depthAll]
    | cons z zs ih =>
      simp only [List.map_cons, PyData.depthAll, PyData.depth]
      omega
  show (PyData.canLay0 (.list (zs.map PyData.str)) && decide (PyData.depth (.list (zs.map PyData.str)) ≤ 64)) = true
  rw [Bool.and_eq_true]
  refine ⟨by simp only [PyData.canLay0]; exact h1 zs h, decide_eq_true ?_⟩
  have := h2 zs
  simp only [PyData.depth]
  omega
theorem eqv_nil (ds : List PyData) : PyData.eqv (.list ds) (.list []) = ds.isEmpty := by
  cases ds <;> first | decide +kernel | rfl
theorem eqD_of {x y : D} {p r : PyData} {k : Bool → Prop} (hx : x.py = some p) (hy : y.py = some r) (s1 : SeqAt.shaped p = true) (s2 : SeqAt.shaped r = true) (h : k (PyData.eqv p r)) : EqD x y k := by
  refine ⟨?_⟩
  simp only [hx, hy]
  exact ⟨s1, s2, h⟩
theorem eqD_nil {xs : List Str} {k : Bool → Prop} (h : ∀ z ∈ xs, PyData.strOk z = true) (hk : k xs.isEmpty) : EqD (.lst (xs.map D.str)) (.lst []) k :=
  eqD_of (py_strs xs) rfl (strs_shaped h) (by decide +kernel) (by rw [eqv_nil, List.isEmpty_map]; exact hk)
/-- a line's words -/
theorem split_line (line : Str) : ∃ x rest, Txt.split line (Str.ofString " ") = x :: rest ∧ (∀ z ∈ x :: rest, z.length ≤ line.length + 1) ∧ (x :: rest).length ≤ line.length + 1 := by
  have hw := PyProof.Rows.split_weight line (Str.ofString " ") (by decide +kernel)
  cases h : Txt.split line (Str.ofString " ") with
  | nil =>
    have := PyProof.Rows.split_pos line (Str.ofString " ")
    rw [h] at this
    simp at this
  | cons x rest =>
    rw [h] at hw
    refine ⟨x, rest, rfl, fun z hz => ?_, by omega⟩
    have := sum_mem hz
    omega
def sp_deed_in : PSp := fun cells q _ => ∃ line : Str, cells = [.fz (.str line)] ∧ line.length ≤ 900000 ∧ q ((readD line).getD .non) cells
theorem len_deed_in : Len 1 sp_deed_in := fun cells q eq ⟨z, h, _⟩ => by rw [h]; rfl
def w_deed_in_5 (G : Gx) : WS := (wRet (wIf (wB (wOp dEq (wKget km_WORDS_OF_DEEDS (wName 1)) (wCall (d1 dLen) (wCons (wName 3) wNil)))) (wTup (wCons (wName 1) (wStar (wName 3) wNil))) (wC .non)))
def w_deed_in_4 (G : Gx) : WS := (wSeq (wIfS (wB (wOp dEq (wName 1) (wC (.str (Str.ofString "take")))))
  (wRet (wIf (wB (wOp dEq (wName 3) (wLst wNil))) (wC .non) (wTup (wCons (wName 1) (wCons (wOp dIx (wName 3) (wC (.int 0))) (wCons (wCall (d1 dToTup) (wCons (wCut (wName 3) (wSome (wC (.int 1))) wNo) wNil)) wNil))))))
  wNext) (w_deed_in_5 G))
def w_deed_in_3 (G : Gx) : WS := (wSeq (wAsg [3] (wV (nLc [4] (wItems (wName 2)) (wgName 4) wYes (wCut (wName 4) (wSome (wC (.int 1))) wNo))) (wgName 3)) (w_deed_in_4 G))
def w_deed_in_2 (G : Gx) : WS := (wSeq (wIfS (wNotT (wTru (wCall (d1 dAll) (wCons (wV (nLc [4] (wItems (wName 2)) (wgName 4) wYes (wCallP sp_is_text_word (wCons (wName 4) wNil)))) wNil))))
  (wRet (wC .non))
  wNext) (w_deed_in_3 G))
def w_deed_in_1 (G : Gx) : WS := (wSeq (wIfS (wB (wOp dEq (wName 1) (wC (.str (Str.ofString "use")))))
  (wRet (wIf (wAndT (wB (wOp dEq (wCall (d1 dLen) (wCons (wName 2) wNil)) (wC (.int 1)))) (wB (wOp dNe (wOp dIx (wName 2) (wC (.int 0))) (wC (.str (Str.ofString "")))))) (wTup (wCons (wName 1) (wStar (wName 2) wNil))) (wC .non)))
  wNext) (w_deed_in_2 G))
/-- reading of deed_in: slots 0:line 1:word 2:rest 3:texts 4:one, owned - -/
def w_deed_in (G : Gx) : WS := (wSeq (wAsg [1, 2] (wMeth "str" (m1 dSplit) (wName 0) (wCons (wC (.str (Str.ofString " "))) wNil)) (wgStar (wgCons (wgName 1) (wgCons (wgName 2) wgNil)))) (w_deed_in_1 G))
theorem pure_deed_in (G : Gx) : Pure false 1 5 sp_deed_in (w_deed_in G) := by
  intro cells q eq hl hp
  obtain ⟨line, rfl, hz, k⟩ := hp
  obtain ⟨x, rest, hsp, hlen, hcnt⟩ := split_line line
  have hrl : ∀ z ∈ rest, z.length ≤ 1000000 := fun z hz' => by have := hlen z (List.mem_cons_of_mem _ hz'); omega
  rw [List.length_cons] at hcnt
  have fin : ∀ v, (readD line).getD .non = v → q v [.fz (.str line)] := fun v e => by subst e; exact k
  have hr := hsp
  unfold readD at fin
  rw [hsp] at fin
  dsimp only at fin
  clear k hsp
  refine ⟨rfl, by decide +kernel, size_le (by omega), ?_⟩
  rw [hr]
  refine ⟨npl rfl, rfl, ite2 (fun h => ?_) (fun h => ?_)⟩
  · have hx := dec_t h
    rw [if_pos hx] at fin
    refine ite2 (fun h1 => ?_) (fun h1 => ?_)
    · have h1' := dec_t h1
      obtain ⟨y, rfl⟩ : ∃ y, rest = [y] := by
        match rest, h1' with
        | [y], _ => exact ⟨y, rfl⟩
        | [], h => simp at h
        | _ :: _ :: _, h => simp at h; omega
      refine ⟨_, rfl, ite2 (fun h2 => ?_) (fun h2 => ⟨rfl, fin _ ?_⟩)⟩
      · refine ⟨lenOk, rfl, fin _ ?_⟩
        rw [Bool.not_eq_true'] at h2
        simp [dec_f h2]
      · rw [Bool.not_eq_false'] at h2
        simp [dec_t h2]
    · refine ⟨rfl, fin _ ?_⟩
      have h1' := dec_f h1
      match rest, h1' with
      | [y], h => simp at h
      | [], _ => rfl
      | _ :: _ :: _, _ => rfl
  · have hx := dec_f h
    rw [if_neg hx] at fin
    refine lc_m (xs := rest) (g := D.str) (fun z => .bl (twS z)) (size_le (by omega)) (fun z K1 K2 hz k => ⟨nd0, z, rfl, hrl z hz, k⟩) (all_m (ite2 (fun h1 => ?_) (fun h1 => ?_)))
    · rw [Bool.not_eq_true'] at h1
      rw [if_neg (by rw [h1]; exact Bool.false_ne_true)] at fin
      exact ⟨rfl, fin _ rfl⟩
    · rw [Bool.not_eq_false'] at h1
      rw [if_pos h1] at fin
      refine lc_m (xs := rest) (g := D.str) (fun z => .str (cut1 z)) (size_le (by omega)) (fun z K1 K2 hz k => ⟨size_le (hrl z hz), k⟩) ?_
      have em : (rest.map fun z => D.str (cut1 z)) = (rest.map cut1).map D.str := by rw [List.map_map]; rfl
      have hts : ∀ z ∈ rest.map cut1, PyData.strOk z = true := fun z hz => by
        obtain ⟨y, hy, rfl⟩ := List.mem_map.mp hz
        have := List.all_eq_true.mp h1 y hy
        unfold twS at this
        rw [Bool.and_eq_true] at this
        exact txt_ok this.2
      rw [em]
      have htl : (rest.map cut1).length ≤ 900000 := by rw [List.length_map]; omega
      generalize rest.map cut1 = ts at fin hts htl ⊢
      refine ⟨np1 rfl, ite2 (fun h2 => ?_) (fun h2 => ?_)⟩
      · rw [if_pos (dec_t h2)] at fin
        refine ⟨lenOk, eqD_nil hts ?_⟩
        refine ite2 (fun h3 => ?_) (fun h3 => ?_)
        · obtain rfl := List.isEmpty_iff.mp h3
          exact ⟨rfl, fin _ rfl⟩
        · cases ts with
          | nil => cases h3
          | cons y more =>
            refine ⟨_, at0, lenOk, rfl, fin _ ?_⟩
            show D.tup [.str x, .str y, .tup (more.map D.str)] = .tup [.str x, .str y, .tup (cutA (.str y :: more.map D.str) (some 1) none)]
            have : cutA (D.str y :: more.map D.str) (some 1) none = more.map D.str := cutA_1 _ _
            rw [this]
      · rw [if_neg (dec_f h2)] at fin
        have dn : ∀ v : Option D, km_WORDS_OF_DEEDS x = v → v = none ∨ v = some (.int 2) ∧ (x = Str.ofString "put" ∨ x = Str.ofString "move") ∨ v = some (.int 1) ∧ x = Str.ofString "store" := fun v e => by
          unfold km_WORDS_OF_DEEDS at e
          rw [if_neg hx] at e
          split at e
          · rename_i hp; exact .inr (.inl ⟨e.symm, .inl hp⟩)
          · split at e
            · rename_i hp; exact .inr (.inl ⟨e.symm, .inr hp⟩)
            · split at e
              · rename_i hp; exact .inr (.inr ⟨e.symm, hp⟩)
              · exact .inl e.symm
        have pm : ∀ {a b : Str}, x = a → a ≠ b → x ≠ b := fun e n z => n (e.symm.trans z)
        have n1 : Str.ofString "put" ≠ Str.ofString "move" := by decide +kernel
        have n2 : Str.ofString "put" ≠ Str.ofString "store" := by decide +kernel
        have n3 : Str.ofString "move" ≠ Str.ofString "store" := by decide +kernel
        have le : ∀ n : Nat, decide (((ts.map D.str).length : Int) = (n : Nat)) = decide (ts.length = n) := fun n => by
          rw [List.length_map]; apply decide_eq_decide.mpr; omega
        rcases dn _ rfl with hv | ⟨hv, hx2⟩ | ⟨hv, hx2⟩
        · refine ⟨trivial, ?_⟩
          rw [hv]
          refine ⟨rfl, rfl, rfl, fin _ ?_⟩
          have no : ¬ ((x = Str.ofString "put" ∧ ts.length = 2) ∨ (x = Str.ofString "move" ∧ ts.length = 2) ∨ (x = Str.ofString "store" ∧ ts.length = 1)) := by
            unfold km_WORDS_OF_DEEDS at hv
            rw [if_neg hx] at hv
            rintro (⟨e, _⟩ | ⟨e, _⟩ | ⟨e, _⟩)
            · rw [if_pos e] at hv; cases hv
            · rw [if_neg (pm e n1.symm), if_pos e] at hv; cases hv
            · rw [if_neg (pm e n2.symm), if_neg (pm e n3.symm), if_pos e] at hv; cases hv
          rw [if_neg no]; rfl
        · refine ⟨trivial, ?_⟩
          rw [hv]
          refine ite2 (fun h3 => ?_) (fun h3 => ⟨rfl, fin _ ?_⟩)
          · refine vals_cons (vals_all ⟨by rw [List.length_cons, List.length_map]; exact size_le (by omega), rfl, fin _ ?_⟩)
            have h3' : ts.length = 2 := by
              have := dec_t h3
              rw [List.length_map] at this
              omega
            rw [if_pos (by rcases hx2 with e | e; exact .inl ⟨e, h3'⟩; exact .inr (.inl ⟨e, h3'⟩))]; rfl
          · have h3' : ts.length ≠ 2 := fun z => by
              have := dec_f h3
              rw [List.length_map] at this
              omega
            rw [if_neg (by
              rintro (⟨_, e⟩ | ⟨_, e⟩ | ⟨e, _⟩)
              · exact h3' e
              · exact h3' e
              · rcases hx2 with z | z
                · exact pm z n2 e
                · exact pm z n3 e)]; rfl
        · refine ⟨trivial, ?_⟩
          rw [hv]
          refine ite2 (fun h3 => ?_) (fun h3 => ⟨rfl, fin _ ?_⟩)
          · refine vals_cons (vals_all ⟨by rw [List.length_cons, List.length_map]; exact size_le (by omega), rfl, fin _ ?_⟩)
            have h3' : ts.length = 1 := by
              have := dec_t h3
              rw [List.length_map] at this
              omega
            rw [if_pos (.inr (.inr ⟨hx2, h3'⟩))]; rfl
          · have h3' : ts.length ≠ 1 := fun z => by
              have := dec_f h3
              rw [List.length_map] at this
              omega
            rw [if_neg (by
              rintro (⟨e, _⟩ | ⟨e, _⟩ | ⟨_, e⟩)
              · exact pm e n2 hx2
              · exact pm e n3 hx2
              · exact h3' e)]; rfl
section
variable {G : Gx} {P : Program} {wd : World} {mg : Str → Option Value} {base : Heap}
theorem ok_deed_in (T : Tx G wd mg) : PFnK G P wd mg base CX0 3 "deed_in" 1 false sp_deed_in := by
  have G_is_text_word := ok_is_text_word (P := P) (wd := wd) (base := base) T
  refine ⟨⟨T.a_deed_in, T.d_deed_in, ps_deed_in, fnPk T.F_deed_in sc_deed_in (by decide) (w := w_deed_in G) (fun cdv A outer s H E hr => ?_) (pure_deed_in G), T.m_deed_in, T.F_deed_in.kp, T.b_deed_in⟩, len_deed_in⟩
  exact (py_cons (py_asg (is := [1, 2]) (px_meth PySem.F.plainAttrs_str PySem.F.slot_str_split PySem.F.type_str_split (fun M H v d => tyD_str) splitK split_s (px_name 0) (pxa_cons px_str pxa_nil)) (pxg_star rfl (pxgs_cons (pxg_name 1 sc_deed_in.nd rfl (Or.inl rfl)) (pxgs_cons (pxg_name 2 sc_deed_in.nd rfl (Or.inl rfl)) pxgs_nil))))
  (py_cons (py_if (pxt_cmp (eq_ok hr.units) eq_s (px_name 1) px_str (nomark _))
  (py_one (py_ret (px_if (pxw (pxw_and (pxt_cmp (eq_ok hr.units) eq_s (px_callB len_anyK len_s rfl T.n_len (by decide +kernel) (pxa_cons (px_name 2) pxa_nil)) px_int (nomark _)) (pxw_and1 (pxt_cmp (ne_ok hr.units) ne_s (px_ix ix_ok ix_s (px_name 2) px_int (fun _ _ => rfl)) px_str (nomark _))))) (px_tup (pxa_cons (px_name 1) (pxa_star (px_name 2) pxa_nil))) px_non)))
  py_nil)
  (py_cons (py_if (pxt_not (pxt_val (px_callB (all_ok rfl) all_s rfl T.n_all (by decide +kernel) (pxa_cons (pxn (pxn_lc (own := [("one", 4)]) (by decide) rfl sc_deed_in.nd (pxi_any (px_name 2)) (blkOk_by (N := nm_deed_in) (sc := defScope s_deed_in) (by decide +kernel)) (fun _ _ _ _ _ => (pxg_name 4 sc_deed_in.nd rfl (Or.inl rfl))) (fun _ _ _ _ _ => pxts_nil) (fun _ _ _ _ _ => (px_callPk G_is_text_word (hr.mono (by decide)) rfl (pxa_cons (px_name 4) pxa_nil))))) pxa_nil))))
  (py_one (py_ret px_non))
  py_nil)
  (py_cons (py_setLc 3 (own := [("one", 4)]) (by decide) rfl sc_deed_in.nd rfl rfl (sw_true rfl rfl rfl (by decide +kernel)) (pxi_any (px_name 2)) (blkOk_by (N := nm_deed_in) (sc := defScope s_deed_in) (by decide +kernel)) (fun _ _ _ _ _ => (pxg_name 4 sc_deed_in.nd rfl (Or.inl rfl))) (fun _ _ _ _ _ => pxts_nil) (fun _ _ _ _ _ => (px_cut (px_name 4) (pxo_some px_int) pxo_none)))
  (py_cons (py_if (pxt_cmp (eq_ok hr.units) eq_s (px_name 1) (px_gstr rfl T.m_TAKE_formats) (nomark _))
  (py_one (py_ret (px_if (pxt_cmp (eq_ok hr.units) eq_s (px_name 3) (px_lst pxa_nil) (nomark _)) px_non (px_tup (pxa_cons (px_name 1) (pxa_cons (px_ix ix_ok ix_s (px_name 3) px_int (fun _ _ => rfl)) (pxa_cons (px_callT tuple_ofK toTup_s rfl T.n_tuple (by decide +kernel) (pxa_cons (px_cut (px_name 3) (pxo_some px_int) pxo_none) pxa_nil)) pxa_nil)))))))
  py_nil)
  (py_one (py_ret (px_if (pxt_cmp (eq_ok hr.units) eq_s (px_kget T.km_WORDS_OF_DEEDS rfl T.m_WORDS_OF_DEEDS (px_name 1)) (px_callB len_anyK len_s rfl T.n_len (by decide +kernel) (pxa_cons (px_name 3) pxa_nil)) (nomark _)) (px_tup (pxa_cons (px_name 1) (pxa_star (px_name 3) pxa_nil))) px_non))))))))
end
end Pu
namespace Pu
open PySem PySem.Spec PyProof.Rows L2 Lk Evl StX

open My
def isStrD : D → Bool
  | .str _ => true
  | _ => false
def rowsOf (text : Str) : List Str := if text = Str.ofString "" then [] else Txt.split text (Str.ofString "\n")
/-- the first row that is no deed -/
def badRow (rows : List Str) : Option Nat := rows.findIdx? fun r => (readD r).isNone
def goodRows (rows : List Str) : List D := rows.filterMap readD
theorem badRow_none {rows : List Str} (h : badRow rows = none) : ∀ r ∈ rows, (readD r).isSome = true := fun r hr => by
  unfold badRow at h
  rw [List.findIdx?_eq_none_iff] at h
  have := h r hr
  revert this
  cases readD r with
  | none => intro h; cases h
  | some d => intro _; rfl
theorem badRow_some {rows : List Str} {n : Nat} (h1 : ∀ r ∈ rows.take n, (readD r).isSome = true) {r : Str} (h2 : rows[n]? = some r) (h3 : readD r = none) : badRow rows = some n := by
  unfold badRow
  rw [List.findIdx?_eq_some_iff_getElem]
  obtain ⟨hn, e⟩ := List.getElem?_eq_some_iff.mp h2
  refine ⟨hn, by rw [e, h3]; rfl, fun j hj => ?_⟩
  have := h1 (rows[j]'(by omega)) (List.mem_iff_getElem.mpr ⟨j, by rw [List.length_take]; omega, by rw [List.getElem_take]⟩)
  cases z : readD (rows[j]'(by omega)) with
  | none => rw [z] at this; cases this
  | some d => simp
theorem big_strs {zs : List Str} {n : Nat} (h : ∀ z ∈ zs, z.length ≤ n) : bigs (zs.map D.str) ≤ n := bigs_le fun d hd => by
  obtain ⟨z, hz, rfl⟩ := List.mem_map.mp hd
  exact h z hz
theorem big_tuple {ds : List D} {n : Nat} (h1 : ds.length ≤ n) (h2 : bigs ds ≤ n) : big (.tup ds) ≤ n := by
  rw [big]; exact Nat.max_le.mpr ⟨h1, h2⟩
theorem readD_big {line : Str} {d : D} (h : readD line = some d) : big d ≤ line.length + 4 := by
  obtain ⟨x, rest, hsp, hz, hcnt⟩ := split_line line
  unfold readD at h
  rw [hsp] at h
  rw [List.length_cons] at hcnt
  have hx := hz x List.mem_cons_self
  have hr : ∀ z ∈ rest, z.length ≤ line.length + 1 := fun z h => hz z (List.mem_cons_of_mem _ h)
  have ht : ∀ z ∈ rest.map cut1, z.length ≤ line.length + 1 := fun z h => by
    obtain ⟨y, hy, rfl⟩ := List.mem_map.mp h
    exact Nat.le_trans (len_cut y _ _) (hr y hy)
  have htl : (rest.map cut1).length = rest.length := List.length_map ..
  dsimp only at h
  generalize rest.map cut1 = ts at ht htl h
  split at h
  · split at h
    · rename_i y
      split at h
      · cases h
      · cases h
        have := hr y (by simp)
        refine big_tuple (by simp) ?_
        exact big_strs (zs := [x, y]) fun z hz => by
          simp at hz
          rcases hz with rfl | rfl <;> omega
    · cases h
  · split at h
    · split at h
      · split at h
        · cases h
        · rename_i y more
          cases h
          have h1 := ht y (by simp)
          rw [List.length_cons] at htl
          refine big_tuple (by simp) ?_
          refine bigs_le fun d hd => ?_
          simp only [List.mem_cons, List.not_mem_nil, or_false] at hd
          rcases hd with rfl | rfl | rfl
          · show x.length ≤ _; omega
          · show y.length ≤ _; omega
          · refine big_tuple (by rw [List.length_map]; omega) (big_strs fun z hz => ?_)
            have := ht z (by simp [hz])
            omega
      · split at h
        · cases h
          refine big_tuple (by rw [List.length_cons, List.length_map]; omega) (big_strs (zs := x :: ts) fun z hz => ?_)
          rcases List.mem_cons.mp hz with rfl | hz
          · omega
          · have := ht z hz; omega
        · cases h
    · cases h
theorem rows_facts {text : Str} (h : text.length ≤ 800000) : (rowsOf text).length ≤ 800001 ∧ ∀ r ∈ rowsOf text, r.length ≤ 800001 := by
  unfold rowsOf
  split
  · exact ⟨Nat.zero_le _, fun _ h => nomatch h⟩
  · have hw := PyProof.Rows.split_weight text (Str.ofString "\n") (by decide +kernel)
    refine ⟨by omega, fun r hr => ?_⟩
    have := sum_mem hr
    omega
theorem readD_ne {r : Str} : readD r ≠ some .non := fun h => by
  have := readD_big h
  unfold readD at h
  split at h
  · cases h
  · dsimp only at h
    split at h
    · split at h
      · split at h <;> cases h
      · cases h
    · split at h
      · split at h
        · split at h <;> cases h
        · split at h <;> cases h
      · cases h
def sp_read_history : PSp := fun cells q eq => ∃ d : D, cells = [.fz d] ∧ big d ≤ 800000 ∧ (isStrD d = false → eq (Str.ofString "InvalidText") [] [] cells) ∧ ∀ text, d = .str text →
  (∀ n, badRow (rowsOf text) = some n → eq (Str.ofString "ParseError") [Str.ofString "number"] [.int (n : Nat)] cells) ∧
  (badRow (rowsOf text) = none → histD (.tup (goodRows (rowsOf text))) = false → eq (Str.ofString "ParseError") [Str.ofString "number"] [.int ((goodRows (rowsOf text)).length : Nat)] cells) ∧
  (badRow (rowsOf text) = none → histD (.tup (goodRows (rowsOf text))) = true → q (.tup (goodRows (rowsOf text))) cells)
theorem len_read_history : Len 1 sp_read_history := fun cells q eq ⟨z, h, _⟩ => by rw [h]; rfl
def w_read_history_5 (G : Gx) : WS := (wRet (wCall (d1 dToTup) (wCons (wName 2) wNil)))
def w_read_history_4 (G : Gx) : WS := (wSeq (wIfS (wNotT (wTru (wCallP sp_is_history (wCons (wCall (d1 dToTup) (wCons (wName 2) wNil)) wNil))))
  (wRaise1 "ParseError" "number" (wCall (d1 dLen) (wCons (wName 2) wNil)))
  wNext) (w_read_history_5 G))
def w_read_history_3 (G : Gx) : WS := (wSeq (wFor [3, 4] (wEnum (wName 1)) (wgTup 2 (wgCons (wgName 3) (wgCons (wgName 4) wgNil)))
  (wSeq (wAsg [5] (wCallP sp_deed_in (wCons (wName 4) wNil)) (wgName 5))
  (wSeq (wIfS (wB (wOp dIsN (wName 5) (wC .non)))
  (wRaise1 "ParseError" "number" (wName 3))
  wNext)
  (wDrop (wLm 2 mAppend (wName 5)))))) (w_read_history_4 G))
def w_read_history_2 (G : Gx) : WS := (wSeq (wSetN 2 (nLst wNil)) (w_read_history_3 G))
def w_read_history_1 (G : Gx) : WS := (wSeq (wAsg [1] (wIf (wB (wOp dEq (wName 0) (wC (.str (Str.ofString ""))))) (wLst wNil) (wMeth "str" (m1 dSplit) (wName 0) (wCons (wC (.str (Str.ofString "\n"))) wNil))) (wgName 1)) (w_read_history_2 G))
/-- reading of read_history: slots 0:lines 1:rows 2:found 3:number 4:line 5:deed, owned found -/
def w_read_history (G : Gx) : WS := (wSeq (wIfS (wNotT (wTru (wCall (d2 (dIsi .str)) (wCons (wName 0) (wCons (wC (.ty "str")) wNil)))))
  (wRaise "InvalidText")
  wNext) (w_read_history_1 G))
theorem pure_read_history (G : Gx) : PureX false 1 6 sp_read_history (w_read_history G) := by
  intro cells q eq hl hp
  obtain ⟨d, rfl, hb, k1, k2⟩ := hp
  cases d <;> first | (exact absurd (show 2000000 ≤ 800000 from hb) (by decide)) | (exact ⟨rfl, k1 rfl⟩) | skip
  rename_i text
  obtain ⟨q1, q2, q3⟩ := k2 text rfl
  have hb' : text.length ≤ 800000 := hb
  obtain ⟨hn, hr⟩ := rows_facts hb'
  have rest : ∀ rows, rowsOf text = rows → w_read_history_2 G (endsP false [.fz (.str text)] q eq) [.fz (.str text), .fz (.lst (rows.map D.str)), .un, .un, .un, .un] := by
    rintro rows rfl
    generalize rowsOf text = rows at q1 q2 q3 hn hr ⊢
    refine ⟨lenOk, np rfl, ltOk, npl rfl, fun i ρ => (∃ c3 c4 c5, ρ = [.fz (.str text), .fz (.lst (rows.map D.str)), .ow (.lst (goodRows (rows.take i))), c3, c4, c5]) ∧ ∀ r ∈ rows.take i, (readD r).isSome = true, ⟨⟨_, _, _, rfl⟩, by simp⟩, ?_, ?_⟩
    · rintro i d ρ' hd ⟨⟨c3, c4, c5, rfl⟩, hs⟩
      obtain ⟨x, hx, rfl⟩ := idx_enum hd
      obtain ⟨line, hline, rfl⟩ := idx_map hx
      have hll := hr line (List.mem_of_getElem? hline)
      refine ⟨rfl, rfl, nd0, line, rfl, by omega, np1 rfl, ?_⟩
      cases e : readD line with
      | none => exact q1 i (badRow_some hs hline e)
      | some d =>
        have dn : d.isNon = false := by
          cases d <;> first | rfl | exact absurd e readD_ne
        have e1 : goodRows (rows.take (i + 1)) = goodRows (rows.take i) ++ [d] := by
          unfold goodRows
          rw [List.take_add_one, hline, List.filterMap_append]; simp [e]
        refine ite2 (fun h => by exact absurd (dn.symm.trans h) (by decide)) (fun _ => ⟨?_, ⟨.fz (.int (i : Nat)), .fz (.str line), .fz d, by rw [e1]; rfl⟩, fun r hr' => ?_⟩)
        · have h1 : (goodRows (rows.take i)).length ≤ (rows.take i).length := List.length_filterMap_le _ _
          rw [List.length_take] at h1
          have := lt_get hline
          have : (goodRows (rows.take i)).length ≤ 900000 := by omega
          exact Nat.lt_of_le_of_lt this (by decide)
        · rw [List.take_add_one, hline] at hr'
          rcases List.mem_append.mp hr' with h | h
          · exact hs r h
          · have hrl : r = line := by simpa using h
            rw [hrl, e]; rfl
    · rintro ρ' ⟨⟨c3, c4, c5, e⟩, hs⟩
      rw [len_enum, List.length_map, List.take_length] at e hs
      subst e
      have bn : badRow rows = none := by
        unfold badRow
        rw [List.findIdx?_eq_none_iff]
        intro r hr'
        have := hs r hr'
        revert this
        cases readD r with
        | none => intro h; cases h
        | some d => intro _; rfl
      have h1 : (goodRows rows).length ≤ rows.length := List.length_filterMap_le _ _
      refine ⟨nd0, .tup (goodRows rows), rfl, big_tuple (by omega) (bigs_le fun d hd => ?_), ite2 (fun h => q2 bn (by simpa using h)) (fun h => ⟨rfl, q3 bn (by simpa using h)⟩)⟩
      obtain ⟨r, hr1, hr2⟩ := List.mem_filterMap.mp hd
      have := readD_big hr2
      have := hr r hr1
      omega
  refine ⟨rfl, ite2 (fun h => ⟨lenOk, np1 rfl, rest [] ?_⟩) (fun h => ⟨rfl, by decide +kernel, size_le (by omega), np1 rfl, rest (Txt.split text (Str.ofString "\n")) ?_⟩)⟩
  · unfold rowsOf; rw [if_pos (dec_t h)]
  · unfold rowsOf; rw [if_neg (dec_f h)]
section
variable {G : Gx} {P : Program} {wd : World} {mg : Str → Option Value} {base : Heap}
theorem ok_read_history (T : Tx G wd mg) : PFnK G P wd mg base (L2.CX P wd) 6 "read_history" 1 false sp_read_history := by
  have G_deed_in := ok_deed_in (P := P) (wd := wd) (base := base) T
  have G_is_history := ok_is_history (P := P) (wd := wd) (base := base) T
  have init_ParseError := ok_ParseError___init__ (P := P) (wd := wd) (base := base) T
  refine ⟨⟨T.a_read_history, T.d_read_history, ps_read_history, fnXk T.F_read_history sc_read_history (by decide) (w := w_read_history G) (fun cdv A outer s H E hr => ?_) (pure_read_history G), T.m_read_history, T.F_read_history.kp, T.b_read_history⟩, len_read_history⟩
  exact (py_cons (py_if (pxt_not (pxt_val (px_callB isiK (isi_s .str) rfl T.n_isinstance (by decide +kernel) (pxa_cons (px_name 0) (pxa_cons (px_ty rfl T.n_str (by decide +kernel)) pxa_nil)))))
  (py_one (py_raise "InvalidText" rfl (takes_of rfl rfl rfl rfl) T.x_InvalidText T.m_InvalidText T.k_InvalidText (raises_own T.b_InvalidText T.t_InvalidText) rfl))
  py_nil)
  (py_cons (py_set 1 sc_read_history.nd rfl (Or.inl rfl) (px_if (pxt_cmp (eq_ok hr.units) eq_s (px_name 0) px_str (nomark _)) (px_lst pxa_nil) (px_meth PySem.F.plainAttrs_str PySem.F.slot_str_split PySem.F.type_str_split (fun M H v d => tyD_str) splitK split_s (px_name 0) (pxa_cons px_str pxa_nil))))
  (py_cons (py_setN 2 sc_read_history.nd rfl (Or.inl rfl) (pxn_lst pxa_nil))
  (py_cons (py_for (is := [3, 4]) (passes_of rfl) rfl (pxi_enum rfl T.n_enumerate (px_name 1)) (pxg_tup rfl (pxgs_cons (pxg_name 3 sc_read_history.nd rfl (Or.inl rfl)) (pxgs_cons (pxg_name 4 sc_read_history.nd rfl (Or.inl rfl)) pxgs_nil)))
  (py_cons (py_set 5 sc_read_history.nd rfl (Or.inl rfl) (px_callPk G_deed_in (hr.mono (by decide)) rfl (pxa_cons (px_name 4) pxa_nil)))
  (py_cons (py_if (pxt_cmp op_isN1 isN_s (px_name 5) px_non (nomark _))
  (py_one (py_raise1 "ParseError" "number" rfl (takes_of rfl rfl rfl rfl) T.o_ParseError T.f_ParseError T.tf_ParseError init_ParseError (hr.mono (by decide)) T.b_ParseError___init__ rfl T.m_ParseError (px_name 3)))
  py_nil)
  (py_one (py_expr (px_lm 2 PySem.F.slot_list_append PySem.F.type_list_append mt_append append_m (pv 2) (px_name 5)))))))
  (py_cons (py_if (pxt_not (pxt_val (px_callPk G_is_history (hr.mono (by decide)) rfl (pxa_cons (px_callT tuple_ofK toTup_s rfl T.n_tuple (by decide +kernel) (pxa_cons (px_name 2) pxa_nil)) pxa_nil))))
  (py_one (py_raise1 "ParseError" "number" rfl (takes_of rfl rfl rfl rfl) T.o_ParseError T.f_ParseError T.tf_ParseError init_ParseError (hr.mono (by decide)) T.b_ParseError___init__ rfl T.m_ParseError (px_callB len_anyK len_s rfl T.n_len (by decide +kernel) (pxa_cons (px_name 2) pxa_nil))))
  py_nil)
  (py_one (py_ret (px_callT tuple_ofK toTup_s rfl T.n_tuple (by decide +kernel) (pxa_cons (px_name 2) pxa_nil)))))))))
end
end Pu
namespace Pu
open PySem PySem.Spec PyProof.Rows L2 Lk Evl StX

open My
theorem item_sign {x : D} (h : x ∈ (Str.ofString "#$0123:_abcdefg").cps.toList.map sgnD) : ∃ c ∈ sigs, x = sgnD c := by
  obtain ⟨c, hc, rfl⟩ := List.mem_map.mp h
  exact ⟨c, hc, rfl⟩
theorem signs_of {ys : List D} (h : ∀ y ∈ ys, ∃ c ∈ sigs, y = sgnD c) : ∃ cs : List Nat, ys = (cs.map sgn).map D.str ∧ ∀ c ∈ cs, c ∈ sigs := by
  induction ys with
  | nil => exact ⟨[], rfl, fun _ h => nomatch h⟩
  | cons y ys ih =>
    obtain ⟨c, hc, rfl⟩ := h y List.mem_cons_self
    obtain ⟨cs, rfl, hcs⟩ := ih fun y hy => h y (List.mem_cons_of_mem _ hy)
    exact ⟨c :: cs, rfl, fun x hx => by
      rcases List.mem_cons.mp hx with rfl | hx
      · exact hc
      · exact hcs x hx⟩
theorem join_txt {cs : List Nat} (h : ∀ c ∈ cs, c ∈ sigs) : txtS (Txt.join (Str.ofString "") (cs.map sgn)) = true ∧ (Txt.join (Str.ofString "") (cs.map sgn)).length = cs.length := by
  refine ⟨?_, by rw [← tl_len, join_sgns]⟩
  unfold txtS
  rw [join_sgns, List.all_eq_true]
  exact fun c hc => decide_eq_true (h c hc)
def sp__law_word : PSp := fun cells q _ => ∃ (d : D) (n : Nat), cells = [.ow d, .fz (.int (n : Nat))] ∧ isDice d ∧ n ≤ 1000 ∧ ∀ d' z, isDice d' → txtS z = true → z.length ≤ n → q (.str z) [.ow d', .fz (.int (n : Nat))]
theorem len__law_word : Len 2 sp__law_word := fun cells q eq ⟨d, n, h, _⟩ => by rw [h]; rfl
/-- reading of _law_word: slots 0:dice 1:upto 2:turn, owned dice -/
def w__law_word (G : Gx) : WS := (wRet (wMeth "str" (m1 dJoin) (wC (.str (Str.ofString ""))) (wCons (wV (nLc [2] (wRng1 (wCons (wCallP sp__law_roll (wCons (wName 0) (wCons (wOp dAdd (wName 1) (wC (.int 1))) wNil))) wNil)) (wgName 2) wYes (wCallP sp__law_one_of (wCons (wName 0) (wCons (wCallP sp__law_all_signs wNil) wNil))))) wNil)))
theorem pure__law_word (G : Gx) : Pure false 2 3 sp__law_word (w__law_word G) := by
  intro cells q eq hl hp
  obtain ⟨d, n, rfl, hd, hn, k⟩ := hp
  refine ⟨rfl, nd1, d, _, rfl, hd, ?_, ?_, fun d1 r hd1 r0 r1 => ⟨⟨?_, ?_⟩, ?_⟩⟩
  · show (0 : Int) < (n : Nat) + 1; omega
  · exact Int.lt_of_le_of_lt (show ((n : Nat) : Int) + 1 ≤ 1001 by omega) (by decide)
  · omega
  · omega
  obtain ⟨m, rfl⟩ : ∃ m : Nat, r = m := ⟨r.toNat, (Int.toNat_of_nonneg r0).symm⟩
  have hm : m ≤ n := by omega
  refine lc_dice (tl' := [.fz (.int (n : Nat)), .un]) (fun _ y => ∃ c ∈ sigs, y = sgnD c) rfl hd1 (by rw [List.length_range]; exact size_le (by omega)) (fun a d' K1 K2 ha hd' k => ?_) (fun ys d' hd' hl hs => ?_)
  · refine ⟨nd0, rfl, nd1, d', .fz (.str _), _, _, rfl, hd', .inl rfl, rfl, by decide +kernel, by decide +kernel, fun d2 x hd2 hx => ?_⟩
    exact k d2 x hd2 (item_sign hx)
  · obtain ⟨cs, rfl, hcs⟩ := signs_of (all_of hl hs)
    obtain ⟨j1, j2⟩ := join_txt hcs
    rw [List.length_map, List.length_map, List.length_range] at hl
    refine join_m ?_ ⟨rfl, k d' _ hd' j1 (by rw [j2]; omega)⟩
    rw [sum_sgn, show (Str.ofString "").length = 0 by decide +kernel]
    omega
section
variable {G : Gx} {P : Program} {wd : World} {mg : Str → Option Value} {base : Heap}
theorem ok__law_word (T : Tx G wd mg) : PFnK G P wd mg base CX0 3 "_law_word" 2 false sp__law_word := by
  have G__law_one_of := ok__law_one_of (P := P) (wd := wd) (base := base) T
  have G__law_all_signs := ok__law_all_signs (P := P) (wd := wd) (base := base) T
  have G__law_roll := ok__law_roll (P := P) (wd := wd) (base := base) T
  refine ⟨⟨T.a__law_word, T.d__law_word, ps__law_word, fnPk T.F__law_word sc__law_word (by decide) (w := w__law_word G) (fun cdv A outer s H E hr => ?_) (pure__law_word G), T.m__law_word, T.F__law_word.kp, T.b__law_word⟩, len__law_word⟩
  exact (py_one (py_ret (px_meth PySem.F.plainAttrs_str PySem.F.slot_str_join PySem.F.type_str_join (fun M H v d => tyD_str) joinK join_s px_str (pxa_cons (pxn (pxn_lc (own := [("turn", 2)]) (by decide) rfl sc__law_word.nd (pxi_range1 rfl T.n_range (pxa_cons (px_callPk G__law_roll (hr.mono (by decide)) rfl (pxa_cons (px_name 0) (pxa_cons (px_op add_ok add_s (px_name 1) px_int) pxa_nil))) pxa_nil)) (blkOk_by (N := nm__law_word) (sc := defScope s__law_word) (by decide +kernel)) (fun _ _ _ _ _ => (pxg_name 2 sc__law_word.nd rfl (Or.inl rfl))) (fun _ _ _ _ _ => pxts_nil) (fun _ _ _ _ _ => (px_callPk G__law_one_of (hr.mono (by decide)) rfl (pxa_cons (px_name 0) (pxa_cons (px_callPk0 G__law_all_signs (hr.mono (by decide)) rfl) pxa_nil)))))) pxa_nil))))
end
end Pu
namespace Pu
open PySem PySem.Spec PyProof.Rows L2 Lk Evl StX

open My
theorem path_len {z : Str} (h : pathS z = true) : 1 ≤ z.length ∧ z.length ≤ 12 := by
  unfold pathS at h
  rw [Bool.and_eq_true, Bool.and_eq_true, decide_eq_true_eq, decide_eq_true_eq] at h
  exact h.2
theorem txt_app {x y : Str} (h1 : txtS x = true) (h2 : txtS y = true) : txtS (x ++ y) = true := by
  unfold txtS at h1 h2 ⊢
  rw [tl_app, List.all_append, h1, h2]; rfl
def sp__law_path : PSp := fun cells q _ => ∃ d : D, cells = [.ow d] ∧ isDice d ∧ ∀ d' z, isDice d' → pathS z = true → q (.str z) [.ow d']
theorem len__law_path : Len 1 sp__law_path := fun cells q eq ⟨d, h, _⟩ => by rw [h]; rfl
/-- reading of _law_path: slots 0:dice, owned dice -/
def w__law_path (G : Gx) : WS := (wRet (wCallP sp__law_one_of (wCons (wName 0) (wCons (wLst (wCons (wC (.str (Str.ofString "a"))) (wCons (wC (.str (Str.ofString "b"))) (wCons (wC (.str (Str.ofString "#"))) (wCons (wOp dAdd (wCallP sp__law_word (wCons (wName 0) (wCons (wC (.int 11)) wNil))) (wC (.str (Str.ofString "a")))) (wCons (wOp dMul (wC (.str (Str.ofString "_"))) (wC (.int 12))) wNil)))))) wNil))))
theorem pure__law_path (G : Gx) : Pure false 1 1 sp__law_path (w__law_path G) := by
  intro cells q eq hl hp
  obtain ⟨d, rfl, hd, k⟩ := hp
  refine ⟨nd1, d, 11, rfl, hd, by decide, fun d1 z hd1 hz hlen => ?_⟩
  have la : (Str.ofString "a").length = 1 := by decide +kernel
  have lu : (Str.ofString "_").length = 1 := by decide +kernel
  refine ⟨by rw [la]; exact size_le (by omega), 12, rfl, by rw [lu]; decide, by decide, lenOk, nd1, d1, _, _, _, rfl, hd1, .inl rfl, rfl, fun h => (nomatch h), lenOk, fun d2 x hd2 hx => ?_⟩
  have fin : ∀ y, x = .str y → pathS y = true → q x [.ow d2] := fun y e hy => by subst e; exact k d2 y hd2 hy
  refine ⟨rfl, ?_⟩
  rcases List.mem_cons.mp hx with e | hx
  · exact fin _ e (by decide +kernel)
  rcases List.mem_cons.mp hx with e | hx
  · exact fin _ e (by decide +kernel)
  rcases List.mem_cons.mp hx with e | hx
  · exact fin _ e (by decide +kernel)
  rcases List.mem_cons.mp hx with e | hx
  · refine fin _ e ?_
    unfold pathS
    rw [txt_app hz (by decide +kernel), len_app, la, Bool.true_and, decide_eq_true (by omega), decide_eq_true (by omega)]; rfl
  · exact fin _ (List.mem_singleton.mp hx) (by decide +kernel)
def sp__law_deed : PSp := fun cells q _ => ∃ d : D, cells = [.ow d] ∧ isDice d ∧ ∀ d' e, isDice d' → Deed.ok e → e.weight ≤ 200 → q e.data [.ow d']
theorem len__law_deed : Len 1 sp__law_deed := fun cells q eq ⟨d, h, _⟩ => by rw [h]; rfl
def w__law_deed_5 (G : Gx) : WS := (wRet (wTup (wCons (wC (.str (Str.ofString "store"))) (wCons (wCallP sp__law_path (wCons (wName 0) wNil)) wNil))))
def w__law_deed_4 (G : Gx) : WS := (wSeq (wIfS (wB (wOp dEq (wName 1) (wC (.int 3))))
  (wRet (wTup (wCons (wC (.str (Str.ofString "take"))) (wCons (wCallP sp__law_path (wCons (wName 0) wNil)) (wCons (wCall (d1 dToTup) (wCons (wV (nLc [2] (wRng1 (wCons (wCallP sp__law_roll (wCons (wName 0) (wCons (wC (.int 4)) wNil))) wNil)) (wgName 2) wYes (wCallP sp__law_word (wCons (wName 0) (wCons (wC (.int 3)) wNil))))) wNil)) wNil)))))
  wNext) (w__law_deed_5 G))
def w__law_deed_3 (G : Gx) : WS := (wSeq (wIfS (wB (wOp dEq (wName 1) (wC (.int 2))))
  (wRet (wTup (wCons (wC (.str (Str.ofString "move"))) (wCons (wCallP sp__law_path (wCons (wName 0) wNil)) (wCons (wCallP sp__law_path (wCons (wName 0) wNil)) wNil)))))
  wNext) (w__law_deed_4 G))
def w__law_deed_2 (G : Gx) : WS := (wSeq (wIfS (wB (wOp dEq (wName 1) (wC (.int 1))))
  (wRet (wTup (wCons (wC (.str (Str.ofString "put"))) (wCons (wCallP sp__law_path (wCons (wName 0) wNil)) (wCons (wCallP sp__law_word (wCons (wName 0) (wCons (wCallP sp__law_one_of (wCons (wName 0) (wCons (wLst (wCons (wC (.int 0)) (wCons (wC (.int 3)) (wCons (wC (.int 30)) wNil)))) wNil))) wNil))) wNil)))))
  wNext) (w__law_deed_3 G))
def w__law_deed_1 (G : Gx) : WS := (wSeq (wIfS (wB (wOp dEq (wName 1) (wC (.int 0))))
  (wRet (wTup (wCons (wC (.str (Str.ofString "use"))) (wCons (wCallP sp__law_one_of (wCons (wName 0) (wCons (wLst (wCons (wC (.str (Str.ofString "a"))) (wCons (wC (.str (Str.ofString "old"))) (wCons (wC (.str (Str.ofString "put"))) (wCons (wC (.str (Str.ofString "zzzzzzzz"))) (wCons (wC (.str (Str.ofString "store"))) wNil)))))) wNil))) wNil))))
  wNext) (w__law_deed_2 G))
/-- reading of _law_deed: slots 0:dice 1:way 2:turn, owned dice -/
def w__law_deed (G : Gx) : WS := (wSeq (wAsg [1] (wCallP sp__law_roll (wCons (wName 0) (wCons (wC (.int 5)) wNil))) (wgName 1)) (w__law_deed_1 G))
theorem w_take {p : Str} {fs : List Str} (hp : p.length ≤ 12) (hf : fs.length ≤ 3) (h : ∀ f ∈ fs, f.length ≤ 3) : (Deed.take p fs).weight ≤ 200 := by
  have s : ((fs.map eqW).map (·.length)).sum ≤ fs.length * 4 := by
    induction fs with
    | nil => simp
    | cons f fs ih =>
      have := h f List.mem_cons_self
      have := ih (by rw [List.length_cons] at hf; omega) fun g hg => h g (List.mem_cons_of_mem _ hg)
      simp only [List.map_cons, List.sum_cons, List.length_cons, len_eqW]
      omega
  unfold Deed.weight Deed.words
  simp only [List.map_cons, List.sum_cons, List.length_cons, List.length_map, len_eqW]
  rw [show (Str.ofString "take").length = 4 by decide +kernel]
  omega
theorem pure__law_deed (G : Gx) : Pure false 1 3 sp__law_deed (w__law_deed G) := by
  intro cells q eq hl hp
  obtain ⟨d, rfl, hd, k⟩ := hp
  have L : ∀ {z : Str}, z.length ≤ 30 → z.length ≤ 30 := fun h => h
  have l1 : (Str.ofString "put").length = 3 := by decide +kernel
  have l2 : (Str.ofString "move").length = 4 := by decide +kernel
  have l3 : (Str.ofString "store").length = 5 := by decide +kernel
  have l4 : (Str.ofString "use").length = 3 := by decide +kernel
  refine ⟨nd1, d, 5, rfl, hd, by decide, by decide, fun d1 r hd1 r0 r5 => ⟨np1 rfl, ?_⟩⟩
  refine ite2 (fun _ => ?_) (fun h0 => ite2 (fun _ => ?_) (fun h1 => ite2 (fun _ => ?_) (fun h2 => ite2 (fun _ => ?_) (fun h3 => ?_))))
  · refine ⟨lenOk, nd1, d1, _, _, _, rfl, hd1, .inl rfl, rfl, fun h => (nomatch h), lenOk, fun d2 x hd2 hx => ⟨lenOk, rfl, ?_⟩⟩
    have fin : ∀ y, x = .str y → nameS y = true → q (.tup [.str (Str.ofString "use"), x]) [.ow d2] := fun y e hy => by
      subst e
      refine k d2 (.use y) hd2 hy ?_
      unfold nameS at hy
      rw [Bool.and_eq_true, Bool.and_eq_true, decide_eq_true_eq, decide_eq_true_eq] at hy
      unfold Deed.weight Deed.words
      simp only [List.map_cons, List.map_nil, List.sum_cons, List.sum_nil, List.length_cons, List.length_nil, l4]
      omega
    simp only [List.mem_cons, List.not_mem_nil, or_false] at hx
    rcases hx with e | e | e | e | e <;> exact fin _ e (by decide +kernel)
  · refine ⟨nd1, d1, rfl, hd1, fun d2 p hd2 hp => ⟨lenOk, nd1, d2, _, _, _, rfl, hd2, .inl rfl, rfl, fun h => (nomatch h), lenOk, fun d3 x hd3 hx => ?_⟩⟩
    obtain ⟨n, rfl, hn⟩ : ∃ n : Nat, x = .int (n : Nat) ∧ n ≤ 30 := by
      simp only [List.mem_cons, List.not_mem_nil, or_false] at hx
      rcases hx with e | e | e
      · exact ⟨0, e, by decide⟩
      · exact ⟨3, e, by decide⟩
      · exact ⟨30, e, by decide⟩
    refine ⟨nd1, d3, n, rfl, hd3, by omega, fun d4 t hd4 ht hlt => ⟨lenOk, rfl, k d4 (.put p t) hd4 ⟨hp, ht⟩ ?_⟩⟩
    obtain ⟨_, h2⟩ := path_len hp
    unfold Deed.weight Deed.words
    simp only [List.map_cons, List.map_nil, List.sum_cons, List.sum_nil, List.length_cons, List.length_nil, len_eqW, l1]
    omega
  · refine ⟨nd1, d1, rfl, hd1, fun d2 p hd2 hp => ⟨nd1, d2, rfl, hd2, fun d3 p2 hd3 hp2 => ⟨lenOk, rfl, k d3 (.move p p2) hd3 ⟨hp, hp2⟩ ?_⟩⟩⟩
    obtain ⟨_, h2⟩ := path_len hp
    obtain ⟨_, h3⟩ := path_len hp2
    unfold Deed.weight Deed.words
    simp only [List.map_cons, List.map_nil, List.sum_cons, List.sum_nil, List.length_cons, List.length_nil, len_eqW, l2]
    omega
  · refine ⟨nd1, d1, rfl, hd1, fun d2 p hd2 hp => ⟨nd1, d2, 4, rfl, hd2, by decide, by decide, fun d3 m hd3 m0 m4 => ⟨⟨by omega, by omega⟩, ?_⟩⟩⟩
    obtain ⟨n, rfl⟩ : ∃ n : Nat, m = n := ⟨m.toNat, (Int.toNat_of_nonneg m0).symm⟩
    have hn : n ≤ 3 := by omega
    refine lc_dice (tl' := [.fz (.int r), .un]) (fun _ y => ∃ z, y = .str z ∧ (txtS z = true ∧ z.length ≤ 3)) rfl hd3 (by rw [List.length_range]; exact size_le (by omega)) (fun a d' K1 K2 ha hd' k => ?_) (fun ys d' hd' hl hs => ?_)
    · exact ⟨nd1, d', 3, rfl, hd', by decide, fun d5 z hd5 hz hlz => k d5 _ hd5 ⟨z, rfl, hz, hlz⟩⟩
    · obtain ⟨zs, rfl, hzs⟩ := strs_of (p := fun z => txtS z = true ∧ z.length ≤ 3) (all_of hl hs)
      rw [List.length_map, List.length_range] at hl
      have hl' : zs.length = n := hl
      refine ⟨lenOk, rfl, k d' (.take p zs) hd' ⟨hp, fun f hf => (hzs f hf).1⟩ (w_take (path_len hp).2 (by omega) fun f hf => (hzs f hf).2)⟩
  · refine ⟨nd1, d1, rfl, hd1, fun d2 p hd2 hp => ⟨lenOk, rfl, k d2 (.store p) hd2 hp ?_⟩⟩
    obtain ⟨_, h2⟩ := path_len hp
    unfold Deed.weight Deed.words
    simp only [List.map_cons, List.map_nil, List.sum_cons, List.sum_nil, List.length_cons, List.length_nil, len_eqW, l3]
    omega
section
variable {G : Gx} {P : Program} {wd : World} {mg : Str → Option Value} {base : Heap}
theorem ok__law_path (T : Tx G wd mg) : PFnK G P wd mg base CX0 4 "_law_path" 1 false sp__law_path := by
  have G__law_one_of := ok__law_one_of (P := P) (wd := wd) (base := base) T
  have G__law_word := ok__law_word (P := P) (wd := wd) (base := base) T
  refine ⟨⟨T.a__law_path, T.d__law_path, ps__law_path, fnPk T.F__law_path sc__law_path (by decide) (w := w__law_path G) (fun cdv A outer s H E hr => ?_) (pure__law_path G), T.m__law_path, T.F__law_path.kp, T.b__law_path⟩, len__law_path⟩
  exact (py_one (py_ret (px_callPk G__law_one_of (hr.mono (by decide)) rfl (pxa_cons (px_name 0) (pxa_cons (px_lst (pxa_cons px_str (pxa_cons px_str (pxa_cons px_str (pxa_cons (px_op add_ok add_s (px_callPk G__law_word (hr.mono (by decide)) rfl (pxa_cons (px_name 0) (pxa_cons px_int pxa_nil))) px_str) (pxa_cons (px_op mul_ok mul_s px_str px_int) pxa_nil)))))) pxa_nil)))))
theorem ok__law_deed (T : Tx G wd mg) : PFnK G P wd mg base CX0 5 "_law_deed" 1 false sp__law_deed := by
  have G__law_roll := ok__law_roll (P := P) (wd := wd) (base := base) T
  have G__law_path := ok__law_path (P := P) (wd := wd) (base := base) T
  have G__law_one_of := ok__law_one_of (P := P) (wd := wd) (base := base) T
  have G__law_word := ok__law_word (P := P) (wd := wd) (base := base) T
  refine ⟨⟨T.a__law_deed, T.d__law_deed, ps__law_deed, fnPk T.F__law_deed sc__law_deed (by decide) (w := w__law_deed G) (fun cdv A outer s H E hr => ?_) (pure__law_deed G), T.m__law_deed, T.F__law_deed.kp, T.b__law_deed⟩, len__law_deed⟩
  exact (py_cons (py_set 1 sc__law_deed.nd rfl (Or.inl rfl) (px_callPk G__law_roll (hr.mono (by decide)) rfl (pxa_cons (px_name 0) (pxa_cons px_int pxa_nil))))
  (py_cons (py_if (pxt_cmp (eq_ok hr.units) eq_s (px_name 1) px_int (nomark _))
  (py_one (py_ret (px_tup (pxa_cons px_str (pxa_cons (px_callPk G__law_one_of (hr.mono (by decide)) rfl (pxa_cons (px_name 0) (pxa_cons (px_lst (pxa_cons px_str (pxa_cons px_str (pxa_cons px_str (pxa_cons px_str (pxa_cons px_str pxa_nil)))))) pxa_nil))) pxa_nil)))))
  py_nil)
  (py_cons (py_if (pxt_cmp (eq_ok hr.units) eq_s (px_name 1) px_int (nomark _))
  (py_one (py_ret (px_tup (pxa_cons px_str (pxa_cons (px_callPk G__law_path (hr.mono (by decide)) rfl (pxa_cons (px_name 0) pxa_nil)) (pxa_cons (px_callPk G__law_word (hr.mono (by decide)) rfl (pxa_cons (px_name 0) (pxa_cons (px_callPk G__law_one_of (hr.mono (by decide)) rfl (pxa_cons (px_name 0) (pxa_cons (px_lst (pxa_cons px_int (pxa_cons px_int (pxa_cons px_int pxa_nil)))) pxa_nil))) pxa_nil))) pxa_nil))))))
  py_nil)
  (py_cons (py_if (pxt_cmp (eq_ok hr.units) eq_s (px_name 1) px_int (nomark _))
  (py_one (py_ret (px_tup (pxa_cons px_str (pxa_cons (px_callPk G__law_path (hr.mono (by decide)) rfl (pxa_cons (px_name 0) pxa_nil)) (pxa_cons (px_callPk G__law_path (hr.mono (by decide)) rfl (pxa_cons (px_name 0) pxa_nil)) pxa_nil))))))
  py_nil)
  (py_cons (py_if (pxt_cmp (eq_ok hr.units) eq_s (px_name 1) px_int (nomark _))
  (py_one (py_ret (px_tup (pxa_cons px_str (pxa_cons (px_callPk G__law_path (hr.mono (by decide)) rfl (pxa_cons (px_name 0) pxa_nil)) (pxa_cons (px_callT tuple_ofK toTup_s rfl T.n_tuple (by decide +kernel) (pxa_cons (pxn (pxn_lc (own := [("turn", 2)]) (by decide) rfl sc__law_deed.nd (pxi_range1 rfl T.n_range (pxa_cons (px_callPk G__law_roll (hr.mono (by decide)) rfl (pxa_cons (px_name 0) (pxa_cons px_int pxa_nil))) pxa_nil)) (blkOk_by (N := nm__law_deed) (sc := defScope s__law_deed) (by decide +kernel)) (fun _ _ _ _ _ => (pxg_name 2 sc__law_deed.nd rfl (Or.inl rfl))) (fun _ _ _ _ _ => pxts_nil) (fun _ _ _ _ _ => (px_callPk G__law_word (hr.mono (by decide)) rfl (pxa_cons (px_name 0) (pxa_cons px_int pxa_nil)))))) pxa_nil)) pxa_nil))))))
  py_nil)
  (py_one (py_ret (px_tup (pxa_cons px_str (pxa_cons (px_callPk G__law_path (hr.mono (by decide)) rfl (pxa_cons (px_name 0) pxa_nil)) pxa_nil))))))))))
end
end Pu
namespace Pu
open PySem PySem.Spec PyProof.Rows L2 Lk Evl StX

open My
abbrev okS (z : Str) : Prop := ∀ c ∈ tl z, c < 0x110000
theorem okS_str {z : Str} (h : okS z) : PyData.strOk z = true := by
  unfold PyData.strOk
  rw [← Array.all_toList, List.all_eq_true]
  exact fun c hc => decide_eq_true (h c hc)
theorem mem_joinL {S p : List Nat} {c : Nat} (hc : c ∈ p) : ∀ {ps : List (List Nat)}, p ∈ ps → c ∈ TL.joinL S ps
  | [q], h => by rw [List.mem_singleton.mp h] at hc; exact hc
  | q :: q2 :: r, h => by
    show c ∈ q ++ (S ++ TL.joinL S (q2 :: r))
    rcases List.mem_cons.mp h with rfl | h
    · exact List.mem_append_left _ hc
    · exact List.mem_append_right _ (List.mem_append_right _ (mem_joinL hc h))
theorem split_sub {x y z : Str} (h : z ∈ Txt.split x y) {c : Nat} (hc : c ∈ tl z) : c ∈ tl x := by
  have e := StrLaws.join_split x y
  rw [← e]
  show c ∈ TL.tl (Str.join y (Txt.split x y))
  rw [TL.tl_join]
  exact mem_joinL hc (List.mem_map.mpr ⟨z, h, rfl⟩)
theorem okS_split {x y z : Str} (hx : okS x) (h : z ∈ Txt.split x y) : okS z := fun c hc => hx c (split_sub h hc)
/-- what a deed that was read is, at least -/
def Deed.pre : Deed → Prop
  | .use n => n ≠ Str.ofString ""
  | .store p => txtS p = true
  | .put p t => txtS p = true ∧ txtS t = true
  | .move p t => txtS p = true ∧ txtS t = true
  | .take p fs => txtS p = true ∧ ∀ f ∈ fs, txtS f = true
def Deed.strs : Deed → List Str
  | .use n => [n]
  | .store p => [p]
  | .put p t => [p, t]
  | .move p t => [p, t]
  | .take p fs => p :: fs
theorem read_shape {line : Str} {d : D} (h : readD line = some d) : ∃ e : Deed, d = e.data ∧ e.pre ∧ ∀ z ∈ e.strs, z.length ≤ line.length + 1 ∧ (okS line → okS z) := by
  obtain ⟨x, rest, hsp, hz, hcnt⟩ := split_line line
  have hok : ∀ z ∈ x :: rest, okS line → okS z := fun z hz h => okS_split h (by rw [hsp]; exact hz)
  unfold readD at h
  rw [hsp] at h
  dsimp only at h
  have hr : ∀ z ∈ rest, z.length ≤ line.length + 1 ∧ (okS line → okS z) := fun z h => ⟨hz z (List.mem_cons_of_mem _ h), hok z (List.mem_cons_of_mem _ h)⟩
  have ht : ∀ z ∈ rest.map cut1, z.length ≤ line.length + 1 ∧ (okS line → okS z) := fun z h => by
    obtain ⟨y, hy, rfl⟩ := List.mem_map.mp h
    obtain ⟨a, b⟩ := hr y hy
    refine ⟨Nat.le_trans (len_cut y _ _) a, fun hl c hc => ?_⟩
    exact b hl c (over_cut (l := tl y) (some 1) none (fun c h => h) c hc)
  split at h
  · rename_i hu
    split at h
    · rename_i y
      split at h
      · cases h
      · rename_i hy
        cases h
        refine ⟨.use y, by rw [hu]; rfl, hy, fun z hz => ?_⟩
        rw [List.mem_singleton.mp hz]
        exact hr y (by simp)
    · cases h
  · split at h
    · rename_i hall
      have htw : ∀ z ∈ rest.map cut1, txtS z = true := fun z hz => by
        obtain ⟨y, hy, rfl⟩ := List.mem_map.mp hz
        have := List.all_eq_true.mp hall y hy
        unfold twS at this
        rw [Bool.and_eq_true] at this
        exact this.2
      generalize rest.map cut1 = ts at ht htw h
      split at h
      · rename_i hk
        split at h
        · cases h
        · rename_i y more
          cases h
          exact ⟨.take y more, by rw [hk]; rfl, ⟨htw y (by simp), fun f hf => htw f (by simp [hf])⟩, fun z hz => ht z hz⟩
      · split at h
        · rename_i hc
          cases h
          rcases hc with ⟨hx, hl⟩ | ⟨hx, hl⟩ | ⟨hx, hl⟩
          · match ts, hl with
            | [p, t], _ => exact ⟨.put p t, by rw [hx]; rfl, ⟨htw p (by simp), htw t (by simp)⟩, fun z hz => ht z hz⟩
          · match ts, hl with
            | [p, t], _ => exact ⟨.move p t, by rw [hx]; rfl, ⟨htw p (by simp), htw t (by simp)⟩, fun z hz => ht z hz⟩
          · match ts, hl with
            | [p], _ => exact ⟨.store p, by rw [hx]; rfl, htw p (by simp), fun z hz => ht z hz⟩
        · cases h
    · cases h
theorem letters_iff (c : Nat) : c ∈ letters ↔ 97 ≤ c ∧ c ≤ 122 := by
  have e : letters = List.range' 97 26 := by decide +kernel
  rw [e, List.mem_range'_1]
  omega
theorem lt_one (a b : Nat) : ([a] : List Nat) < [b] ↔ a < b := by
  rw [List.cons_lt_cons_iff]
  simp
theorem le_one (a b : Nat) : (!decide (([a] : List Nat) < [b])) = decide (b ≤ a) := by
  rw [Bool.eq_iff_iff, Bool.not_eq_true', decide_eq_false_iff_not, decide_eq_true_eq, lt_one]
  omega
theorem le_a (c : Nat) : (!decide (tl (sgn c) < tl (Str.ofString "a"))) = decide (97 ≤ c) := by
  rw [tl_sgn, show tl (Str.ofString "a") = [97] by decide +kernel]
  exact le_one c 97
theorem le_z (c : Nat) : (!decide (tl (Str.ofString "z") < tl (sgn c))) = decide (c ≤ 122) := by
  rw [tl_sgn, show tl (Str.ofString "z") = [122] by decide +kernel]
  exact le_one 122 c
theorem use_line (n : Str) : Str.ofString "use " ++ n = Deed.line (.use n) := by
  refine TL.ext_tl ?_
  unfold Deed.line Deed.words
  rw [TL.join_eq, TL.tl_join]
  show tl (Str.ofString "use " ++ n) = tl (Str.ofString "use") ++ (tl (Str.ofString " ") ++ tl n)
  rw [tl_app, show tl (Str.ofString "use ") = tl (Str.ofString "use") ++ tl (Str.ofString " ") by decide +kernel, List.append_assoc]
/-- a row of a text: no line feed, code points alone -/
def Row (z : Str) : Prop := ∀ c ∈ tl z, c < 0x110000 ∧ c ≠ 10
theorem Row.ok {z : Str} (h : Row z) : okS z := fun c hc => (h c hc).1
theorem Row.app {x y : Str} (hx : Row x) (hy : Row y) : Row (x ++ y) := fun c hc => by
  rw [tl_app] at hc
  rcases List.mem_append.mp hc with h | h
  · exact hx c h
  · exact hy c h
theorem Row.cut {x : Str} (lo hi : Option Int) (hx : Row x) : Row (cutS x lo hi) := fun c hc => by
  rw [tl_cut] at hc
  exact hx c (List.mem_of_mem_drop (List.mem_of_mem_take hc))
theorem Row.split {x y z : Str} (hx : Row x) (h : z ∈ Txt.split x y) : Row z := fun c hc => hx c (split_sub h hc)
theorem joinL_mem {S : List Nat} {c : Nat} : ∀ {ps : List (List Nat)}, c ∈ TL.joinL S ps → c ∈ S ∨ ∃ p ∈ ps, c ∈ p
  | [], h => nomatch h
  | [p], h => .inr ⟨p, by simp, h⟩
  | p :: q :: r, h => by
    have h' : c ∈ p ++ (S ++ TL.joinL S (q :: r)) := h
    rcases List.mem_append.mp h' with h | h
    · exact .inr ⟨p, by simp, h⟩
    · rcases List.mem_append.mp h with h | h
      · exact .inl h
      · rcases joinL_mem h with h | ⟨x, hx, hc⟩
        · exact .inl h
        · exact .inr ⟨x, List.mem_cons_of_mem _ hx, hc⟩
theorem Row.join {s : Str} {ps : List Str} (hs : Row s) (hp : ∀ p ∈ ps, Row p) : Row (Txt.join s ps) := fun c hc => by
  rw [TL.join_eq] at hc
  have hc' : c ∈ TL.tl (Str.join s ps) := hc
  rw [TL.tl_join] at hc'
  rcases joinL_mem hc' with h | ⟨q, hq, h⟩
  · exact hs c h
  · obtain ⟨p, hp', rfl⟩ := List.mem_map.mp hq
    exact hp p hp' c h
theorem row_by {z : Str} (h : (tl z).all (fun c => decide (c < 0x110000 ∧ c ≠ 10)) = true) : Row z := fun c hc => of_decide_eq_true (List.all_eq_true.mp h c hc)

theorem flt_ok {cs : List Nat} (h : ∀ c ∈ cs, c < 0x110000) : ∀ z ∈ cs.map sgn, PyData.strOk z = true := fun z hz => by
  obtain ⟨c, hc, rfl⟩ := List.mem_map.mp hz
  refine okS_str fun c' h' => ?_
  rw [tl_sgn, List.mem_singleton] at h'
  rw [h']; exact h c hc
theorem eqD_nilS {cs : List Nat} {k : Bool → Prop} (h : ∀ c ∈ cs, c < 0x110000) (hk : k cs.isEmpty) : EqD (.lst (cs.map sgnD)) (.lst []) k := by
  rw [show cs.map sgnD = (cs.map sgn).map D.str by rw [List.map_map]; rfl]
  exact eqD_nil (flt_ok h) (by rw [List.isEmpty_map]; exact hk)
theorem flt_nil {α : Type} {xs : List α} {p : α → Bool} : (xs.filter p).isEmpty = xs.all fun a => !p a := by
  rw [Bool.eq_iff_iff, List.isEmpty_iff, List.filter_eq_nil_iff, List.all_eq_true]
  constructor
  · intro h a ha
    have := h a ha
    cases z : p a with
    | true => rw [z] at this; exact absurd rfl this
    | false => rfl
  · intro h a ha z
    have := h a ha
    rw [z] at this; cases this
def sp__law_line : PSp := fun cells q _ => ∃ e : Deed, cells = [.fz e.data] ∧ e.weight ≤ 1000000 ∧ q (.str e.line) cells
theorem len__law_line : Len 1 sp__law_line := fun cells q eq ⟨z, h, _⟩ => by rw [h]; rfl
def w__law_line_3 (G : Gx) : WS := (wRet (wMeth "str" (m1 dJoin) (wC (.str (Str.ofString " "))) (wCons (wOp dAdd (wLst (wCons (wOp dIx (wName 0) (wC (.int 0))) wNil)) (wV (nLc [2] (wItems (wName 1)) (wgName 2) wYes (wOp dAdd (wC (.str (Str.ofString "="))) (wName 2))))) wNil)))
def w__law_line_2 (G : Gx) : WS := (wSeq (wIfS (wB (wOp dEq (wOp dIx (wName 0) (wC (.int 0))) (wC (.str (Str.ofString "take")))))
  (wAsg [1] (wOp dAdd (wLst (wCons (wOp dIx (wName 0) (wC (.int 1))) wNil)) (wCall (d1 dToLst) (wCons (wOp dIx (wName 0) (wC (.int 2))) wNil))) (wgName 1))
  wNext) (w__law_line_3 G))
def w__law_line_1 (G : Gx) : WS := (wSeq (wAsg [1] (wCall (d1 dToLst) (wCons (wCut (wName 0) (wSome (wC (.int 1))) wNo) wNil)) (wgName 1)) (w__law_line_2 G))
/-- reading of _law_line: slots 0:deed 1:texts 2:text, owned - -/
def w__law_line (G : Gx) : WS := (wSeq (wIfS (wB (wOp dEq (wOp dIx (wName 0) (wC (.int 0))) (wC (.str (Str.ofString "use")))))
  (wRet (wOp dAdd (wC (.str (Str.ofString "use "))) (wOp dIx (wName 0) (wC (.int 1)))))
  wNext) (w__law_line_1 G))
theorem pure__law_line (G : Gx) : Pure false 1 3 sp__law_line (w__law_line G) := by
  intro cells q eq hl hp
  obtain ⟨e, rfl, hw, k⟩ := hp
  have hww := words_weight e
  have hwm : ∀ z ∈ e.words, z.length ≤ 1000000 := fun z hz => Nat.le_trans (word_weight hz) hw
  have e1 : (Str.ofString "=").length = 1 := by decide +kernel
  have add : ∀ z, eqW z ∈ e.words → (Str.ofString "=").length + z.length ≤ sizeLine := fun z hz => by
    have := hwm _ hz
    rw [len_eqW] at this
    rw [e1]; exact size_le (by omega)
  have rest : ∀ (wd : Str) (zs : List Str) (tl : List D), e.data = .tup (.str wd :: tl) → e.words = wd :: zs.map eqW → w__law_line_3 G (endsP false [.fz e.data] q fun _ _ _ _ => False) [.fz e.data, .fz (.lst (zs.map D.str)), .un] := by
    intro wd zs tl ed ew
    rw [ed] at k ⊢
    rw [ew, List.length_cons, List.length_map] at hww
    refine ⟨rfl, _, at0, lenOk, lc_m (fun z => .str (eqW z)) (size_le (by omega)) (fun z K1 K2 hz k => ⟨add z (by rw [ew]; exact List.mem_cons_of_mem _ (List.mem_map.mpr ⟨z, hz, rfl⟩)), k⟩) ⟨?_, ?_⟩⟩
    · rw [List.length_map]; exact size_le (by simp; omega)
    · show dJoin _ (.lst ([.str wd] ++ zs.map fun z => .str (eqW z))) _
      rw [show ([D.str wd] ++ zs.map fun z => D.str (eqW z)) = e.words.map D.str by rw [ew, List.map_cons, List.map_map]; rfl]
      refine join_m ?_ ⟨rfl, k⟩
      have : (e.words.map (·.length)).sum + e.words.length = e.weight := rfl
      rw [show (Str.ofString " ").length = 1 by decide +kernel]
      omega
  cases e with
  | use n =>
    have := hwm n (by simp [Deed.words])
    refine ⟨_, rfl, _, rfl, ?_, rfl, ?_⟩
    · rw [show (Str.ofString "use ").length = 4 by decide +kernel]
      exact Nat.le_trans (show 4 + n.length ≤ 2000000 by omega) (Nat.le_of_ble_eq_true rfl)
    · rw [use_line]; exact k
  | store p => exact ⟨_, rfl, np1 rfl, _, rfl, rest (Str.ofString "store") [p] [.str p] rfl rfl⟩
  | put p t => exact ⟨_, rfl, np1 rfl, _, rfl, rest (Str.ofString "put") [p, t] [.str p, .str t] rfl rfl⟩
  | move p t => exact ⟨_, rfl, np1 rfl, _, rfl, rest (Str.ofString "move") [p, t] [.str p, .str t] rfl rfl⟩
  | take p fs =>
    simp only [Deed.words, List.length_cons, List.length_map] at hww
    refine ⟨_, rfl, np1 rfl, _, rfl, _, rfl, lenOk, _, rfl, ?_, np1 rfl, rest (Str.ofString "take") (p :: fs) [.str p, .tup (fs.map D.str)] rfl rfl⟩
    rw [List.length_map]
    exact size_le (by simp; omega)
section
variable {G : Gx} {P : Program} {wd : World} {mg : Str → Option Value} {base : Heap}
theorem ok__law_line (T : Tx G wd mg) : PFnK G P wd mg base CX0 1 "_law_line" 1 false sp__law_line := by
  refine ⟨⟨T.a__law_line, T.d__law_line, ps__law_line, fnPk T.F__law_line sc__law_line (by decide) (w := w__law_line G) (fun cdv A outer s H E hr => ?_) (pure__law_line G), T.m__law_line, T.F__law_line.kp, T.b__law_line⟩, len__law_line⟩
  exact (py_cons (py_if (pxt_cmp (eq_ok hr.units) eq_s (px_ix ix_ok ix_s (px_name 0) px_int (fun _ _ => rfl)) px_str (nomark _))
  (py_one (py_ret (px_op add_ok add_s px_str (px_ix ix_ok ix_s (px_name 0) px_int (fun _ _ => rfl)))))
  py_nil)
  (py_cons (py_set 1 sc__law_line.nd rfl (Or.inl rfl) (px_callT (toLst_ok rfl) toLst_s rfl T.n_list (by decide +kernel) (pxa_cons (px_cut (px_name 0) (pxo_some px_int) pxo_none) pxa_nil)))
  (py_cons (py_if (pxt_cmp (eq_ok hr.units) eq_s (px_ix ix_ok ix_s (px_name 0) px_int (fun _ _ => rfl)) px_str (nomark _))
  (py_one (py_set 1 sc__law_line.nd rfl (Or.inl rfl) (px_op add_ok add_s (px_lst (pxa_cons (px_ix ix_ok ix_s (px_name 0) px_int (fun _ _ => rfl)) pxa_nil)) (px_callT (toLst_ok rfl) toLst_s rfl T.n_list (by decide +kernel) (pxa_cons (px_ix ix_ok ix_s (px_name 0) px_int (fun _ _ => rfl)) pxa_nil)))))
  py_nil)
  (py_one (py_ret (px_meth PySem.F.plainAttrs_str PySem.F.slot_str_join PySem.F.type_str_join (fun M H v d => tyD_str) joinK join_s px_str (pxa_cons (px_op add_ok add_s (px_lst (pxa_cons (px_ix ix_ok ix_s (px_name 0) px_int (fun _ _ => rfl)) pxa_nil)) (pxn (pxn_lc (own := [("text", 2)]) (by decide) rfl sc__law_line.nd (pxi_any (px_name 1)) (blkOk_by (N := nm__law_line) (sc := defScope s__law_line) (by decide +kernel)) (fun _ _ _ _ _ => (pxg_name 2 sc__law_line.nd rfl (Or.inl rfl))) (fun _ _ _ _ _ => pxts_nil) (fun _ _ _ _ _ => (px_op add_ok add_s px_str (px_name 2)))))) pxa_nil)))))))
end
end Pu
namespace Pu
open PySem PySem.Spec PyProof.Rows L2 Lk Evl StX

open My
def sp__law_texts_in : PSp := fun cells q _ => ∃ ws : List Str, cells = [.fz (.lst (ws.map D.str))] ∧ ws.length ≤ 1000000 ∧ (∀ z ∈ ws, z.length ≤ 1000000 ∧ okS z) ∧ q (if ws.all twS = true then .lst ((ws.map cut1).map D.str) else .non) cells
theorem len__law_texts_in : Len 1 sp__law_texts_in := fun cells q eq ⟨z, h, _⟩ => by rw [h]; rfl
def w__law_texts_in_1 (G : Gx) : WS := (wRet (wV (nLc [1] (wItems (wName 0)) (wgName 1) wYes (wCut (wName 1) (wSome (wC (.int 1))) wNo))))
/-- reading of _law_texts_in: slots 0:words 1:word 2:sign, owned - -/
def w__law_texts_in (G : Gx) : WS := (wSeq (wFor [1] (wItems (wName 0)) (wgName 1)
  (wIfS (wOrT (wB (wOp dNe (wCut (wName 1) wNo (wSome (wC (.int 1)))) (wC (.str (Str.ofString "="))))) (wB (wOp dNe (wV (nLc [2] (wItems (wCut (wName 1) (wSome (wC (.int 1))) wNo)) (wgName 2) (wB (wOp dNotIn (wName 2) (wCallP sp__law_all_signs wNil))) (wName 2))) (wLst wNil))))
  (wRet (wC .non))
  wNext)) (w__law_texts_in_1 G))
theorem pure__law_texts_in (G : Gx) : Pure false 1 3 sp__law_texts_in (w__law_texts_in G) := by
  intro cells q eq hl hp
  obtain ⟨ws, rfl, hn, hz, k⟩ := hp
  refine ⟨npl rfl, fun i ρ => (∃ c1, Cell.isOw c1 = false ∧ ρ = [.fz (.lst (ws.map D.str)), c1, .un]) ∧ ∀ z ∈ ws.take i, twS z = true, ⟨⟨_, rfl, rfl⟩, by simp⟩, ?_, ?_⟩
  · rintro i d ρ' hd ⟨⟨c1, hc1, rfl⟩, hs⟩
    obtain ⟨z, hzi, rfl⟩ := idx_map hd
    have hzm := List.mem_of_getElem? hzi
    obtain ⟨hzl, hzo⟩ := hz z hzm
    have bad : twS z = false → q .non [.fz (.lst (ws.map D.str))] := fun h => by
      rw [if_neg] at k
      · exact k
      · intro z'
        rw [List.all_eq_true.mp z' z hzm] at h
        cases h
    have hc := len_cut z (some 1) none
    refine ⟨size_le hzl, ite2 (fun h1 => ⟨rfl, bad ?_⟩) (fun h1 => ⟨size_le hzl, lc_flt (fun c => !decide (c ∈ sigs)) (tl_size (by omega)) (fun c K1 K2 hc k1 k2 => ⟨nd0, rfl, ite2 k1 k2⟩) ⟨lenOk, eqD_nilS ?_ ?_⟩⟩)⟩
    · rw [Bool.not_eq_true'] at h1
      unfold twS
      rw [h1, Bool.false_and]
    · intro c hc
      exact hzo c (over_cut (l := tl z) (some 1) none (fun c h => h) c (List.mem_filter.mp hc).1)
    · rw [Bool.not_eq_false'] at h1
      have e : twS z = (tl (cut1 z)).all fun c => decide (c ∈ sigs) := by
        unfold twS
        rw [h1, Bool.true_and]; rfl
      rw [flt_nil]
      simp only [Bool.not_not]
      rw [show ((cutS z (some 1) none).cps.toList.all fun c => decide (c ∈ sigs)) = twS z from e.symm]
      refine ite2 (fun h => ⟨rfl, bad (by simpa using h)⟩) (fun h => ⟨⟨_, rfl, rfl⟩, fun y hy => ?_⟩)
      rw [List.take_add_one, hzi] at hy
      rcases List.mem_append.mp hy with h' | h'
      · exact hs y h'
      · have : y = z := by simpa using h'
        rw [this]; simpa using h
  · rintro ρ' ⟨⟨c1, hc1, rfl⟩, hs⟩
    rw [List.length_map, List.take_length] at hs
    rw [if_pos (List.all_eq_true.mpr hs)] at k
    refine lc_m (fun z => .str (cut1 z)) (size_le hn) (fun z K1 K2 hm k => ⟨size_le (hz z hm).1, k⟩) ⟨rfl, ?_⟩ (by cases c1 <;> first | rfl | cases hc1)
    rw [List.map_map] at k
    exact k
def sp__law_read : PSp := fun cells q _ => ∃ line : Str, cells = [.fz (.str line)] ∧ line.length ≤ 900000 ∧ okS line ∧ q ((readD line).getD .non) cells
theorem len__law_read : Len 1 sp__law_read := fun cells q eq ⟨z, h, _⟩ => by rw [h]; rfl
def w__law_read_6 (G : Gx) : WS := (wRet (wIf (wB (wOp dEq (wDget1 (wName 3) (wOp dIx (wName 1) (wC (.int 0)))) (wCall (d1 dLen) (wCons (wName 2) wNil)))) (wOp dAdd (wTup (wCons (wOp dIx (wName 1) (wC (.int 0))) wNil)) (wCall (d1 dToTup) (wCons (wName 2) wNil))) (wC .non)))
def w__law_read_5 (G : Gx) : WS := (wSeq (wAsg [3] (wV (nDisp (wdCons (wC (.str (Str.ofString "put"))) (wC (.int 2)) (wdCons (wC (.str (Str.ofString "move"))) (wC (.int 2)) (wdCons (wC (.str (Str.ofString "store"))) (wC (.int 1)) wdNil))))) (wgName 3)) (w__law_read_6 G))
def w__law_read_4 (G : Gx) : WS := (wSeq (wIfS (wB (wOp dEq (wOp dIx (wName 1) (wC (.int 0))) (wC (.str (Str.ofString "take")))))
  (wRet (wIf (wB (wOp dNe (wName 2) (wLst wNil))) (wTup (wCons (wC (.str (Str.ofString "take"))) (wCons (wOp dIx (wName 2) (wC (.int 0))) (wCons (wCall (d1 dToTup) (wCons (wCut (wName 2) (wSome (wC (.int 1))) wNo) wNil)) wNil)))) (wC .non)))
  wNext) (w__law_read_5 G))
def w__law_read_3 (G : Gx) : WS := (wSeq (wIfS (wB (wOp dIsN (wName 2) (wC .non)))
  (wRet (wC .non))
  wNext) (w__law_read_4 G))
def w__law_read_2 (G : Gx) : WS := (wSeq (wAsg [2] (wCallP sp__law_texts_in (wCons (wCut (wName 1) (wSome (wC (.int 1))) wNo) wNil)) (wgName 2)) (w__law_read_3 G))
def w__law_read_1 (G : Gx) : WS := (wSeq (wIfS (wB (wOp dEq (wOp dIx (wName 1) (wC (.int 0))) (wC (.str (Str.ofString "use")))))
  (wRet (wIf (wAndT (wB (wOp dEq (wCall (d1 dLen) (wCons (wName 1) wNil)) (wC (.int 2)))) (wB (wOp dNe (wOp dIx (wName 1) (wC (.int 1))) (wC (.str (Str.ofString "")))))) (wCall (d1 dToTup) (wCons (wName 1) wNil)) (wC .non)))
  wNext) (w__law_read_2 G))
/-- reading of _law_read: slots 0:line 1:words 2:texts 3:sizes, owned - -/
def w__law_read (G : Gx) : WS := (wSeq (wAsg [1] (wMeth "str" (m1 dSplit) (wName 0) (wCons (wC (.str (Str.ofString " "))) wNil)) (wgName 1)) (w__law_read_1 G))
theorem pure__law_read (G : Gx) : Pure false 1 4 sp__law_read (w__law_read G) := by
  intro cells q eq hl hp
  obtain ⟨line, rfl, hz, hok, k⟩ := hp
  obtain ⟨x, rest, hsp, hlen, hcnt⟩ := split_line line
  have hokr : ∀ z ∈ x :: rest, okS z := fun z hz' => okS_split hok (by rw [hsp]; exact hz')
  have hrl : ∀ z ∈ rest, z.length ≤ 1000000 ∧ okS z := fun z hz' => ⟨by have := hlen z (List.mem_cons_of_mem _ hz'); omega, hokr z (List.mem_cons_of_mem _ hz')⟩
  rw [List.length_cons] at hcnt
  have fin : ∀ v, (readD line).getD .non = v → q v [.fz (.str line)] := fun v e => by subst e; exact k
  have hr := hsp
  unfold readD at fin
  rw [hsp] at fin
  dsimp only at fin
  clear k hsp
  refine ⟨rfl, by decide +kernel, size_le (by omega), ?_⟩
  rw [hr]
  refine ⟨np1 rfl, _, at0, ite2 (fun h => ?_) (fun h => ?_)⟩
  · rw [if_pos (dec_t h)] at fin
    have hx := dec_t h
    refine ite2 (fun h1 => ?_) (fun h1 => ?_)
    · have h1' := dec_t h1
      obtain ⟨y, rfl⟩ : ∃ y, rest = [y] := by
        match rest, h1' with
        | [y], _ => exact ⟨y, rfl⟩
        | [], h => simp at h
        | _ :: _ :: _, h => simp at h; omega
      refine ⟨_, rfl, ite2 (fun h2 => ⟨rfl, fin _ ?_⟩) (fun h2 => ⟨rfl, fin _ ?_⟩)⟩
      · rw [Bool.not_eq_true'] at h2
        simp [dec_f h2]
      · rw [Bool.not_eq_false'] at h2
        simp [dec_t h2]
    · refine ⟨rfl, fin _ ?_⟩
      have h1' := dec_f h1
      match rest, h1' with
      | [y], h => simp at h
      | [], _ => rfl
      | _ :: _ :: _, _ => rfl
  · have hx := dec_f h
    rw [if_neg hx] at fin
    have ec : cutA (D.str x :: rest.map D.str) (some 1) none = rest.map D.str := cutA_1 _ _
    refine ⟨nd0, rest, ?_, by omega, hrl, np1 rfl, ?_⟩
    · show [Cell.fz (.lst (cutA (D.str x :: rest.map D.str) (some 1) none))] = _
      rw [ec]
    by_cases h1 : rest.all twS = true
    · rw [if_pos h1] at fin ⊢
      have hts : ∀ z ∈ rest.map cut1, PyData.strOk z = true := fun z hz => by
        obtain ⟨y, hy, rfl⟩ := List.mem_map.mp hz
        have := List.all_eq_true.mp h1 y hy
        unfold twS at this
        rw [Bool.and_eq_true] at this
        exact txt_ok this.2
      have htl : (rest.map cut1).length ≤ 900000 := by rw [List.length_map]; omega
      generalize rest.map cut1 = ts at fin hts htl ⊢
      refine ⟨_, at0, ite2 (fun h2 => ?_) (fun h2 => ?_)⟩
      · rw [if_pos (dec_t h2)] at fin
        refine ⟨lenOk, eqD_nil hts ?_⟩
        refine ite2 (fun h3 => ?_) (fun h3 => ?_)
        · cases ts with
          | nil => simp at h3
          | cons y more =>
            refine ⟨_, at0, lenOk, rfl, fin _ ?_⟩
            show D.tup [.str x, .str y, .tup (more.map D.str)] = .tup [.str (Str.ofString "take"), .str y, .tup (cutA (.str y :: more.map D.str) (some 1) none)]
            have : cutA (D.str y :: more.map D.str) (some 1) none = more.map D.str := cutA_1 _ _
            rw [this, dec_t h2]
        · have h3' : ts.isEmpty = true := by simpa using h3
          obtain rfl := List.isEmpty_iff.mp h3'
          exact ⟨rfl, fin _ rfl⟩
      · rw [if_neg (dec_f h2)] at fin
        have dn : ∀ v, dGetD [D.str (Str.ofString "put"), .str (Str.ofString "move"), .str (Str.ofString "store")] [.int 2, .int 2, .int 1] (.inr x) = v →
            v = none ∧ x ≠ Str.ofString "put" ∧ x ≠ Str.ofString "move" ∧ x ≠ Str.ofString "store" ∨ v = some (.int 2) ∧ (x = Str.ofString "put" ∨ x = Str.ofString "move") ∨ v = some (.int 1) ∧ x = Str.ofString "store" := fun v e => by
          have si : ∀ {a : Str}, (D.str a).key = some (.inr x) ↔ x = a := fun {a} => ⟨fun h => by cases h; rfl, fun h => by rw [h]; rfl⟩
          simp only [dGetD, si] at e
          split at e
          · rename_i hp; exact .inr (.inl ⟨e.symm, .inl hp⟩)
          · split at e
            · rename_i hp; exact .inr (.inl ⟨e.symm, .inr hp⟩)
            · split at e
              · rename_i hp; exact .inr (.inr ⟨e.symm, hp⟩)
              · rename_i a b c; exact .inl ⟨e.symm, a, b, c⟩
        have n1 : Str.ofString "put" ≠ Str.ofString "store" := by decide +kernel
        have n2 : Str.ofString "move" ≠ Str.ofString "store" := by decide +kernel
        have ln : ∀ n : Nat, decide ((((ts.map D.str).length : Nat) : Int) = n) = decide (ts.length = n) := fun n => by
          rw [List.length_map]; apply decide_eq_decide.mpr; omega
        have sz : [D.str x].length + (ts.map D.str).length ≤ sizeLine := by rw [List.length_map]; exact size_le (by simp; omega)
        refine ⟨Nat.le_of_ble_eq_true rfl, by decide +kernel, np1 rfl, trivial, _, at0, trivial, ?_⟩
        simp only [List.map_cons, List.map_nil]
        rcases dn _ rfl with ⟨hv, a, b, c⟩ | ⟨hv, hx2⟩ | ⟨hv, hx2⟩
        · rw [hv]
          refine ⟨rfl, rfl, rfl, fin _ ?_⟩
          rw [if_neg (by rintro (⟨e, _⟩ | ⟨e, _⟩ | ⟨e, _⟩); exact a e; exact b e; exact c e)]; rfl
        · rw [hv]
          refine ite2 (fun h3 => ⟨_, at0, lenOk, sz, rfl, fin _ ?_⟩) (fun h3 => ⟨rfl, fin _ ?_⟩)
          · have h3' : ts.length = 2 := by
              have := dec_t h3
              rw [List.length_map] at this
              omega
            rw [if_pos (by rcases hx2 with e | e; exact .inl ⟨e, h3'⟩; exact .inr (.inl ⟨e, h3'⟩))]; rfl
          · have h3' : ts.length ≠ 2 := fun z => by
              have := dec_f h3
              rw [List.length_map] at this
              omega
            rw [if_neg (by
              rintro (⟨_, e⟩ | ⟨_, e⟩ | ⟨e, _⟩)
              · exact h3' e
              · exact h3' e
              · rcases hx2 with z | z
                · exact n1 (z.symm.trans e)
                · exact n2 (z.symm.trans e))]; rfl
        · rw [hv]
          refine ite2 (fun h3 => ⟨_, at0, lenOk, sz, rfl, fin _ ?_⟩) (fun h3 => ⟨rfl, fin _ ?_⟩)
          · have h3' : ts.length = 1 := by
              have := dec_t h3
              rw [List.length_map] at this
              omega
            rw [if_pos (.inr (.inr ⟨hx2, h3'⟩))]; rfl
          · have h3' : ts.length ≠ 1 := fun z => by
              have := dec_f h3
              rw [List.length_map] at this
              omega
            rw [if_neg (by
              rintro (⟨e, _⟩ | ⟨e, _⟩ | ⟨_, e⟩)
              · exact n1 (e.symm.trans hx2)
              · exact n2 (e.symm.trans hx2)
              · exact h3' e)]; rfl
    · rw [if_neg h1] at fin ⊢
      exact ⟨rfl, fin _ rfl⟩
section
variable {G : Gx} {P : Program} {wd : World} {mg : Str → Option Value} {base : Heap}
theorem ok__law_texts_in (T : Tx G wd mg) : PFnK G P wd mg base CX0 2 "_law_texts_in" 1 false sp__law_texts_in := by
  have G__law_all_signs := ok__law_all_signs (P := P) (wd := wd) (base := base) T
  refine ⟨⟨T.a__law_texts_in, T.d__law_texts_in, ps__law_texts_in, fnPk T.F__law_texts_in sc__law_texts_in (by decide) (w := w__law_texts_in G) (fun cdv A outer s H E hr => ?_) (pure__law_texts_in G), T.m__law_texts_in, T.F__law_texts_in.kp, T.b__law_texts_in⟩, len__law_texts_in⟩
  exact (py_cons (py_for (is := [1]) PassesOwn.never rfl (pxi_any (px_name 0)) (pxg_name 1 sc__law_texts_in.nd rfl (Or.inl rfl))
  (py_one (py_if (pxw (pxw_or (pxt_cmp (ne_ok hr.units) ne_s (px_cut (px_name 1) pxo_none (pxo_some px_int)) px_str (nomark _)) (pxw_or1 (pxt_cmp (ne_ok hr.units) ne_s (pxn (pxn_lc (own := [("sign", 2)]) (by decide) rfl sc__law_texts_in.nd (pxi_any (px_cut (px_name 1) (pxo_some px_int) pxo_none)) (blkOk_by (N := nm__law_texts_in) (sc := defScope s__law_texts_in) (by decide +kernel)) (fun _ _ _ _ _ => (pxg_name 2 sc__law_texts_in.nd rfl (Or.inl rfl))) (fun _ _ _ _ _ => pxts_one (pxt_cmp (notIn_ok hr.units65) notIn_s (px_name 2) (px_callPk0 G__law_all_signs (hr.mono (by decide)) rfl) (by rfl))) (fun _ _ _ _ _ => (px_name 2)))) (px_lst pxa_nil) (nomark _)))))
  (py_one (py_ret px_non))
  py_nil)))
  (py_one (py_ret (pxn (pxn_lc (own := [("word", 1)]) (by decide) rfl sc__law_texts_in.nd (pxi_any (px_name 0)) (blkOk_by (N := nm__law_texts_in) (sc := defScope s__law_texts_in) (by decide +kernel)) (fun _ _ _ _ _ => (pxg_name 1 sc__law_texts_in.nd rfl (Or.inl rfl))) (fun _ _ _ _ _ => pxts_nil) (fun _ _ _ _ _ => (px_cut (px_name 1) (pxo_some px_int) pxo_none)))))))
theorem ok__law_read (T : Tx G wd mg) : PFnK G P wd mg base CX0 3 "_law_read" 1 false sp__law_read := by
  have G__law_texts_in := ok__law_texts_in (P := P) (wd := wd) (base := base) T
  refine ⟨⟨T.a__law_read, T.d__law_read, ps__law_read, fnPk T.F__law_read sc__law_read (by decide) (w := w__law_read G) (fun cdv A outer s H E hr => ?_) (pure__law_read G), T.m__law_read, T.F__law_read.kp, T.b__law_read⟩, len__law_read⟩
  exact (py_cons (py_set 1 sc__law_read.nd rfl (Or.inl rfl) (px_meth PySem.F.plainAttrs_str PySem.F.slot_str_split PySem.F.type_str_split (fun M H v d => tyD_str) splitK split_s (px_name 0) (pxa_cons px_str pxa_nil)))
  (py_cons (py_if (pxt_cmp (eq_ok hr.units) eq_s (px_ix ix_ok ix_s (px_name 1) px_int (fun _ _ => rfl)) px_str (nomark _))
  (py_one (py_ret (px_if (pxw (pxw_and (pxt_cmp (eq_ok hr.units) eq_s (px_callB len_anyK len_s rfl T.n_len (by decide +kernel) (pxa_cons (px_name 1) pxa_nil)) px_int (nomark _)) (pxw_and1 (pxt_cmp (ne_ok hr.units) ne_s (px_ix ix_ok ix_s (px_name 1) px_int (fun _ _ => rfl)) px_str (nomark _))))) (px_callT tuple_ofK toTup_s rfl T.n_tuple (by decide +kernel) (pxa_cons (px_name 1) pxa_nil)) px_non)))
  py_nil)
  (py_cons (py_set 2 sc__law_read.nd rfl (Or.inl rfl) (px_callPk G__law_texts_in (hr.mono (by decide)) rfl (pxa_cons (px_cut (px_name 1) (pxo_some px_int) pxo_none) pxa_nil)))
  (py_cons (py_if (pxt_cmp op_isN1 isN_s (px_name 2) px_non (nomark _))
  (py_one (py_ret px_non))
  py_nil)
  (py_cons (py_if (pxt_cmp (eq_ok hr.units) eq_s (px_ix ix_ok ix_s (px_name 1) px_int (fun _ _ => rfl)) px_str (nomark _))
  (py_one (py_ret (px_if (pxt_cmp (ne_ok hr.units) ne_s (px_name 2) (px_lst pxa_nil) (nomark _)) (px_tup (pxa_cons px_str (pxa_cons (px_ix ix_ok ix_s (px_name 2) px_int (fun _ _ => rfl)) (pxa_cons (px_callT tuple_ofK toTup_s rfl T.n_tuple (by decide +kernel) (pxa_cons (px_cut (px_name 2) (pxo_some px_int) pxo_none) pxa_nil)) pxa_nil)))) px_non)))
  py_nil)
  (py_cons (py_set 3 sc__law_read.nd rfl (Or.inl rfl) (pxn (pxn_disp (pxd_cons px_str px_int (pxd_cons px_str px_int (pxd_cons px_str px_int pxd_nil))) rfl rfl (by decide) (by decide))))
  (py_one (py_ret (px_if (pxt_cmp (eq_ok hr.units) eq_s (px_dget1 hr.units1 (px_name 3) (px_ix ix_ok ix_s (px_name 1) px_int (fun _ _ => rfl)) ⟨rfl, rfl, rfl, rfl⟩) (px_callB len_anyK len_s rfl T.n_len (by decide +kernel) (pxa_cons (px_name 2) pxa_nil)) (nomark _)) (px_op add_ok add_s (px_tup (pxa_cons (px_ix ix_ok ix_s (px_name 1) px_int (fun _ _ => rfl)) pxa_nil)) (px_callT tuple_ofK toTup_s rfl T.n_tuple (by decide +kernel) (pxa_cons (px_name 2) pxa_nil))) px_non)))))))))
end
end Pu
namespace Pu
open PySem PySem.Spec PyProof.Rows L2 Lk Evl StX

open My
theorem cutA_12 {α : Type} (x y : α) (xs : List α) : cutA (x :: y :: xs) (some 1) (some 2) = [y] := by
  unfold cutA HT.sIx
  simp
def sp__law_is_deed : PSp := fun cells q _ => ∃ e : Deed, cells = [.fz e.data] ∧ e.pre ∧ (∀ z ∈ e.strs, z.length ≤ 1000000 ∧ okS z) ∧ q (.bl (deedD e.data)) cells
theorem len__law_is_deed : Len 1 sp__law_is_deed := fun cells q eq ⟨z, h, _⟩ => by rw [h]; rfl
def w__law_is_deed_2 (G : Gx) : WS := (wRet (wOp dEq (wV (nLc [2] (wItems (wName 1)) (wgName 2) (wNotT (wB (wChain dLe dLe (wC (.int 1)) (wCall (d1 dLen) (wCons (wName 2) wNil)) (wC (.int 12))))) (wName 2))) (wLst wNil)))
def w__law_is_deed_1 (G : Gx) : WS := (wSeq (wAsg [1] (wIf (wB (wOp dIn (wOp dIx (wName 0) (wC (.int 0))) (wTup (wCons (wC (.str (Str.ofString "move"))) (wCons (wC (.str (Str.ofString "store"))) wNil))))) (wCut (wName 0) (wSome (wC (.int 1))) wNo) (wCut (wName 0) (wSome (wC (.int 1))) (wSome (wC (.int 2))))) (wgName 1)) (w__law_is_deed_2 G))
/-- reading of _law_is_deed: slots 0:deed 1:paths 2:path 3:one, owned - -/
def w__law_is_deed (G : Gx) : WS := (wSeq (wIfS (wB (wOp dEq (wOp dIx (wName 0) (wC (.int 0))) (wC (.str (Str.ofString "use")))))
  (wRet (wAndV (wOp dLe (wCall (d1 dLen) (wCons (wOp dIx (wName 0) (wC (.int 1))) wNil)) (wC (.int 8))) (wOp dEq (wV (nLc [3] (wItems (wOp dIx (wName 0) (wC (.int 1)))) (wgName 3) (wNotT (wB (wChain dLe dLe (wC (.str (Str.ofString "a"))) (wName 3) (wC (.str (Str.ofString "z")))))) (wName 3))) (wLst wNil))))
  wNext) (w__law_is_deed_1 G))
theorem pure__law_is_deed (G : Gx) : Pure false 1 4 sp__law_is_deed (w__law_is_deed G) := by
  intro cells q eq hl hp
  obtain ⟨e, rfl, hpre, hz, k⟩ := hp
  have fin : ∀ b : Bool, deedD e.data = b → q (.bl b) [.fz e.data] := fun b h => by rw [← h]; exact k
  have pth : ∀ {z : Str}, txtS z = true → pathS z = (decide (1 ≤ z.length) && decide (z.length ≤ 12)) := fun h => by unfold pathS; rw [h, Bool.true_and]
  have rest : ∀ (ps : List Str) (T : List D), T = ps.map D.str → (∀ z ∈ ps, z.length ≤ 1000000 ∧ okS z) → ps.length ≤ 2 → deedD e.data = ps.all (fun z => decide (1 ≤ z.length) && decide (z.length ≤ 12)) →
      w__law_is_deed_2 G (endsP false [.fz e.data] q fun _ _ _ _ => False) [.fz e.data, .fz (.tup T), .un, .un] := by
    rintro ps T rfl hps hl2 hdd
    refine lc_flt (fun z : Str => !(decide (1 ≤ z.length) && decide (z.length ≤ 12))) (size_le (by omega)) (fun z K1 K2 hm k1 k2 => ?_) ⟨lenOk, eqD_nil (fun z hz => okS_str (hps z (List.mem_filter.mp hz).1).2) ⟨rfl, fin _ ?_⟩⟩
    · have e1 : decide ((1 : Int) ≤ z.length) = decide (1 ≤ z.length) := by apply decide_eq_decide.mpr; omega
      have e12 : decide ((z.length : Int) ≤ 12) = decide (z.length ≤ 12) := by apply decide_eq_decide.mpr; omega
      refine ⟨size_le (hps z hm).1, ite2 (fun h1 => ?_) (fun h1 => k1 ?_)⟩
      · rw [e1] at h1
        refine ite2 (fun h2 => k1 ?_) (fun h2 => k2 ?_)
        · rw [e12, Bool.not_eq_true'] at h2
          rw [h1, h2]; rfl
        · rw [e12, Bool.not_eq_false'] at h2
          rw [h1, h2]; rfl
      · rw [e1] at h1
        rw [h1]; rfl
    · rw [hdd, flt_nil]
      simp
  cases e with
  | use n =>
    obtain ⟨hnl, hno⟩ := hz n (by simp [Deed.strs])
    have hn1 : 1 ≤ n.length := by
      rw [← tl_len]
      have h0 : n ≠ Str.ofString "" := hpre
      cases z : tl n with
      | nil => exact absurd (TL.ext_tl (show TL.tl n = TL.tl (Str.ofString "") from z.trans (by decide +kernel))) h0
      | cons c r => simp
    have hdd : deedD (Deed.use n).data = (decide (n.length ≤ 8) && (tl n).all fun c => decide (c ∈ letters)) := by
      show (if Str.ofString "use" = Str.ofString "use" then onS nameS (.str n) else decide (Str.ofString "use" = Str.ofString "store") && onS pathS (.str n)) = _
      rw [if_pos rfl]
      show nameS n = _
      unfold nameS
      rw [decide_eq_true hn1, Bool.true_and]
    have e8 : decide ((n.length : Int) ≤ 8) = decide (n.length ≤ 8) := by apply decide_eq_decide.mpr; omega
    refine ⟨_, rfl, _, rfl, size_le hnl, ite2 (fun h8 => ⟨_, rfl, ?_⟩) (fun h8 => ⟨rfl, fin _ (by rw [hdd, ← e8, h8]; rfl)⟩)⟩
    rw [e8] at h8
    refine lc_flt (fun c => !decide (c ∈ letters)) (tl_size hnl) (fun c K1 K2 hm k1 k2 => ?_) ⟨lenOk, eqD_nilS (fun c hc => hno c (List.mem_filter.mp hc).1) ⟨rfl, fin _ ?_⟩⟩
    · have hlet : decide (c ∈ letters) = (decide (97 ≤ c) && decide (c ≤ 122)) := by
        rw [Bool.eq_iff_iff, Bool.and_eq_true, decide_eq_true_eq, decide_eq_true_eq, decide_eq_true_eq]
        exact letters_iff c
      have ea : (!decide ((sgn c).cps.toList < (Str.ofString "a").cps.toList)) = decide (97 ≤ c) := le_a c
      have ez : (!decide ((Str.ofString "z").cps.toList < (sgn c).cps.toList)) = decide (c ≤ 122) := le_z c
      refine ite2 (fun h1 => ?_) (fun h1 => k1 ?_)
      · rw [ea] at h1
        refine ite2 (fun h2 => k1 ?_) (fun h2 => k2 ?_)
        · rw [ez, Bool.not_eq_true'] at h2
          rw [hlet, h1, h2]; rfl
        · rw [ez, Bool.not_eq_false'] at h2
          rw [hlet, h1, h2]; rfl
      · rw [ea] at h1
        rw [hlet, h1]; rfl
    · rw [hdd, h8, Bool.true_and, flt_nil]
      simp
  | store p =>
    refine ⟨_, rfl, _, rfl, lenOk, rfl, rfl, np1 rfl, rest [p] _ (cutA_1 _ _) (fun z h => hz z h) (by simp) ?_⟩
    show (if Str.ofString "store" = Str.ofString "use" then onS nameS (.str p) else decide (Str.ofString "store" = Str.ofString "store") && onS pathS (.str p)) = _
    rw [if_neg (by decide +kernel), decide_eq_true rfl, Bool.true_and]
    show pathS p = _
    rw [pth hpre]; simp
  | put p t =>
    refine ⟨_, rfl, _, rfl, lenOk, rfl, rfl, np1 rfl, rest [p] _ (cutA_12 _ _ _) (fun z h => hz z (by simp [Deed.strs]; exact .inl (List.mem_singleton.mp h))) (by simp) ?_⟩
    show (pathS p && secondD (Str.ofString "put") (.str t)) = _
    unfold secondD
    rw [if_pos rfl, show onS txtS (.str t) = true from hpre.2, Bool.and_true, pth hpre.1]; simp
  | move p t =>
    refine ⟨_, rfl, _, rfl, lenOk, rfl, rfl, np1 rfl, rest [p, t] _ (cutA_1 _ _) (fun z h => hz z h) (by simp) ?_⟩
    show (pathS p && secondD (Str.ofString "move") (.str t)) = _
    unfold secondD
    rw [if_neg (by decide +kernel), if_pos rfl, show onS pathS (.str t) = pathS t from rfl, pth hpre.1, pth hpre.2]; simp
  | take p fs =>
    refine ⟨_, rfl, _, rfl, lenOk, rfl, rfl, np1 rfl, rest [p] _ (cutA_12 _ _ _) (fun z h => hz z (by simp [Deed.strs]; exact .inl (List.mem_singleton.mp h))) (by simp) ?_⟩
    show (pathS p && secondD (Str.ofString "take") (.tup (fs.map D.str))) = _
    unfold secondD
    rw [if_neg (by decide +kernel), if_neg (by decide +kernel), decide_eq_true rfl, Bool.true_and, pth hpre.1]
    have : txtsD (.tup (fs.map D.str)) = true := by
      show (fs.map D.str).all (onS txtS) = true
      rw [List.all_map, List.all_eq_true]
      exact hpre.2
    rw [this]; simp
section
variable {G : Gx} {P : Program} {wd : World} {mg : Str → Option Value} {base : Heap}
theorem ok__law_is_deed (T : Tx G wd mg) : PFnK G P wd mg base CX0 1 "_law_is_deed" 1 false sp__law_is_deed := by
  refine ⟨⟨T.a__law_is_deed, T.d__law_is_deed, ps__law_is_deed, fnPk T.F__law_is_deed sc__law_is_deed (by decide) (w := w__law_is_deed G) (fun cdv A outer s H E hr => ?_) (pure__law_is_deed G), T.m__law_is_deed, T.F__law_is_deed.kp, T.b__law_is_deed⟩, len__law_is_deed⟩
  exact (py_cons (py_if (pxt_cmp (eq_ok hr.units) eq_s (px_ix ix_ok ix_s (px_name 0) px_int (fun _ _ => rfl)) px_str (nomark _))
  (py_one (py_ret (px_and (px_cmp le_ok le_s (px_callB len_anyK len_s rfl T.n_len (by decide +kernel) (pxa_cons (px_ix ix_ok ix_s (px_name 0) px_int (fun _ _ => rfl)) pxa_nil)) px_int (nomark _)) (px_one (px_cmp (eq_ok hr.units) eq_s (pxn (pxn_lc (own := [("one", 3)]) (by decide) rfl sc__law_is_deed.nd (pxi_any (px_ix ix_ok ix_s (px_name 0) px_int (fun _ _ => rfl))) (blkOk_by (N := nm__law_is_deed) (sc := defScope s__law_is_deed) (by decide +kernel)) (fun _ _ _ _ _ => (pxg_name 3 sc__law_is_deed.nd rfl (Or.inl rfl))) (fun _ _ _ _ _ => pxts_one (pxt_not (pxt_chain le_ok le_s le_ok le_s px_str (px_name 3) px_str))) (fun _ _ _ _ _ => (px_name 3)))) (px_lst pxa_nil) (nomark _))))))
  py_nil)
  (py_cons (py_set 1 sc__law_is_deed.nd rfl (Or.inl rfl) (px_if (pxt_cmp (in_ok hr.units65) in_s (px_ix ix_ok ix_s (px_name 0) px_int (fun _ _ => rfl)) (px_tup (pxa_cons px_str (pxa_cons px_str pxa_nil))) (by rfl)) (px_cut (px_name 0) (pxo_some px_int) pxo_none) (px_cut (px_name 0) (pxo_some px_int) (pxo_some px_int))))
  (py_one (py_ret (px_cmp (eq_ok hr.units) eq_s (pxn (pxn_lc (own := [("path", 2)]) (by decide) rfl sc__law_is_deed.nd (pxi_any (px_name 1)) (blkOk_by (N := nm__law_is_deed) (sc := defScope s__law_is_deed) (by decide +kernel)) (fun _ _ _ _ _ => (pxg_name 2 sc__law_is_deed.nd rfl (Or.inl rfl))) (fun _ _ _ _ _ => pxts_one (pxt_not (pxt_chain le_ok le_s le_ok le_s px_int (px_callB len_anyK len_s rfl T.n_len (by decide +kernel) (pxa_cons (px_name 2) pxa_nil)) px_int))) (fun _ _ _ _ _ => (px_name 2)))) (px_lst pxa_nil) (nomark _))))))
end
end Pu
namespace Pu
open PySem PySem.Spec PyProof.Rows L2 Lk Evl StX

open My
theorem cutA_strs (zs : List Str) (lo hi : Option Int) : ∃ ys : List Str, cutA (zs.map D.str) lo hi = ys.map D.str ∧ (∀ y ∈ ys, y ∈ zs) ∧ (ys.map (·.length)).sum ≤ (zs.map (·.length)).sum ∧ ys.length ≤ zs.length := by
  unfold cutA
  refine ⟨(zs.drop _).take _, by rw [← List.map_drop, ← List.map_take], fun y hy => List.mem_of_mem_drop (List.mem_of_mem_take hy), ?_, ?_⟩
  · have s1 : ∀ (l : List Str) n, ((l.take n).map (·.length)).sum ≤ (l.map (·.length)).sum := by
      intro l n
      conv => rhs; rw [← List.take_append_drop n l]
      rw [List.map_append, List.sum_append]; omega
    have s2 : ∀ (l : List Str) n, ((l.drop n).map (·.length)).sum ≤ (l.map (·.length)).sum := by
      intro l n
      conv => rhs; rw [← List.take_append_drop n l]
      rw [List.map_append, List.sum_append]; omega
    exact Nat.le_trans (s1 _ _) (s2 _ _)
  · rw [List.length_take, List.length_drop]; omega
def sp__law_bent : PSp := fun cells q _ => ∃ (d : D) (line : Str), cells = [.ow d, .fz (.str line)] ∧ isDice d ∧ Row line ∧ line.length ≤ 10000 ∧ ∀ d' z, isDice d' → Row z → z.length ≤ 2 * line.length + 40 → q (.str z) [.ow d', .fz (.str line)]
theorem len__law_bent : Len 2 sp__law_bent := fun cells q eq ⟨d, z, h, _⟩ => by rw [h]; rfl
def w__law_bent_6 (G : Gx) : WS := (wRet (wMeth "str" (m1 dJoin) (wC (.str (Str.ofString " "))) (wCons (wOp dAdd (wOp dAdd (wCut (wName 2) wNo (wSome (wName 4))) (wOp dMul (wLst (wCons (wName 7) wNil)) (wCall (d1 dToInt) (wCons (wOp dGt (wName 3) (wC (.int 2))) wNil)))) (wCut (wName 2) (wSome (wOp dAdd (wName 4) (wCall (d1 dToInt) (wCons (wOp dNe (wName 3) (wC (.int 4))) wNil)))) wNo)) wNil)))
def w__law_bent_5 (G : Gx) : WS := (wSeq (wIfS (wB (wOp dEq (wName 3) (wC (.int 1))))
  (wRet (wOp dAdd (wCut (wName 1) wNo (wSome (wName 5))) (wCut (wName 1) (wSome (wOp dAdd (wName 5) (wC (.int 1)))) wNo)))
  wNext) (w__law_bent_6 G))
def w__law_bent_4 (G : Gx) : WS := (wSeq (wIfS (wB (wOp dEq (wName 3) (wC (.int 0))))
  (wRet (wOp dAdd (wOp dAdd (wCut (wName 1) wNo (wSome (wName 5))) (wCallP sp__law_one_of (wCons (wName 0) (wCons (wCall (d1 dToLst) (wCons (wC (.str (Str.ofString " =aA#z-"))) wNil)) wNil)))) (wCut (wName 1) (wSome (wName 5)) wNo)))
  wNext) (w__law_bent_5 G))
def w__law_bent_3 (G : Gx) : WS := (wSeq (wAsg [7] (wCallP sp__law_one_of (wCons (wName 0) (wCons (wName 6) wNil))) (wgName 7)) (w__law_bent_4 G))
def w__law_bent_2 (G : Gx) : WS := (wSeq (wAsg [6] (wLst (wCons (wC (.str (Str.ofString "="))) (wCons (wC (.str (Str.ofString "=a"))) (wCons (wC (.str (Str.ofString "a"))) (wCons (wC (.str (Str.ofString "=A"))) (wCons (wC (.str (Str.ofString "use"))) (wCons (wC (.str (Str.ofString "take"))) (wCons (wC (.str (Str.ofString ""))) (wCons (wC (.str (Str.ofString "-"))) (wCons (wC (.str (Str.ofString "put"))) (wCons (wC (.str (Str.ofString "=="))) (wCons (wOp dAdd (wC (.str (Str.ofString "="))) (wOp dMul (wC (.str (Str.ofString "a"))) (wC (.int 13)))) (wCons (wC (.str (Str.ofString "Old"))) (wCons (wC (.str (Str.ofString "abcdefghi"))) wNil)))))))))))))) (wgName 6)) (w__law_bent_3 G))
def w__law_bent_1 (G : Gx) : WS := (wSeq (wPar 4 5 (wCons (wCallP sp__law_roll (wCons (wName 0) (wCons (wCall (d1 dLen) (wCons (wName 2) wNil)) wNil))) (wCons (wCallP sp__law_roll (wCons (wName 0) (wCons (wOp dAdd (wCall (d1 dLen) (wCons (wName 1) wNil)) (wC (.int 1))) wNil))) wNil))) (w__law_bent_2 G))
/-- reading of _law_bent: slots 0:dice 1:line 2:words 3:way 4:at 5:spot 6:some 7:odd, owned dice -/
def w__law_bent (G : Gx) : WS := (wSeq (wPar 2 3 (wCons (wMeth "str" (m1 dSplit) (wName 1) (wCons (wC (.str (Str.ofString " "))) wNil)) (wCons (wCallP sp__law_roll (wCons (wName 0) (wCons (wC (.int 5)) wNil))) wNil))) (w__law_bent_1 G))
theorem pure__law_bent (G : Gx) : Pure false 2 8 sp__law_bent (w__law_bent G) := by
  intro cells q eq hl hp
  obtain ⟨d, line, rfl, hd, hrow, hln, k⟩ := hp
  obtain ⟨x, rest, hsp, hz, hcnt⟩ := split_line line
  have hws := PyProof.Rows.split_weight line (Str.ofString " ") (by decide +kernel)
  rw [hsp] at hws
  have hrl : rest.length ≤ line.length := by rw [List.length_cons] at hcnt; omega
  have hwrow : ∀ z ∈ x :: rest, Row z := fun z hz' => hrow.split (by rw [hsp]; exact hz')
  have szc : ∀ lo hi, (cutS line lo hi).length ≤ line.length := fun lo hi => len_cut line lo hi
  refine ⟨rfl, by decide +kernel, size_le (by omega), nd1, d, 5, rfl, hd, by decide, by decide, fun d1 way hd1 w0 w5 => ?_⟩
  rw [hsp]
  refine ⟨np rfl, np rfl, nd1, d1, _, rfl, hd1, ?_, ?_, fun d2 at' hd2 a0 a1 => ⟨size_le (by omega), nd1, d2, _, rfl, hd2, ?_, ?_, fun d3 spot hd3 s0 s1 => ?_⟩⟩
  · show (0 : Int) < (((x :: rest).map D.str).length : Nat)
    rw [List.length_map, List.length_cons]; omega
  · show ((((x :: rest).map D.str).length : Nat) : Int) < 2 ^ 200
    rw [List.length_map, List.length_cons]
    exact Int.lt_of_le_of_lt (show ((rest.length + 1 : Nat) : Int) ≤ 100000 by omega) (by decide)
  · show (0 : Int) < (line.length : Nat) + 1
    omega
  · exact Int.lt_of_le_of_lt (show ((line.length : Nat) : Int) + 1 ≤ 100000 by omega) (by decide)
  refine ⟨np rfl, np rfl, 13, rfl, by decide +kernel, by decide, by decide +kernel, lenOk, np1 rfl, nd1, d3, _, _, _, rfl, hd3, .inl rfl, rfl, fun h => (nomatch h), lenOk, fun d4 odd hd4 hodd => ⟨np1 rfl, ?_⟩⟩
  obtain ⟨zo, rfl, ho, hol⟩ : ∃ zo : Str, odd = .str zo ∧ Row zo ∧ zo.length ≤ 20 := by
    simp only [List.mem_cons, List.not_mem_nil, or_false] at hodd
    rcases hodd with rfl | rfl | rfl | rfl | rfl | rfl | rfl | rfl | rfl | rfl | rfl | rfl | rfl
    all_goals exact ⟨_, rfl, row_by (by decide +kernel), by decide +kernel⟩
  clear hodd
  refine ite2 (fun _ => ?_) (fun _ => ite2 (fun _ => ?_) (fun _ => ?_))
  · have hk1 := szc none (some spot)
    have hk2 := szc (some spot) none
    refine ⟨size_le (by omega), by decide +kernel, nd1, d4, _, _, _, rfl, hd4, .inl rfl, rfl, by decide +kernel, by decide +kernel, fun d5 v hd5 hv => ?_⟩
    obtain ⟨c, hc, rfl⟩ := List.mem_map.mp hv
    have hrc : Row (sgn c) := fun c' h' => by
      rw [tl_sgn, List.mem_singleton] at h'
      rw [h']
      have h0 : ∀ c ∈ (Str.ofString " =aA#z-").cps.toList, c < 0x110000 ∧ c ≠ 10 := by decide +kernel
      exact h0 c hc
    refine ⟨size_le (by rw [len_sgn]; omega), size_le (by omega), size_le (by rw [len_app, len_sgn]; omega), rfl, k d5 _ hd5 (((hrow.cut _ _).app hrc).app (hrow.cut _ _)) ?_⟩
    rw [len_app, len_app, len_sgn]; omega
  · have hk1 := szc none (some spot)
    have hk2 := szc (some (spot + 1)) none
    refine ⟨size_le (by omega), size_le (by omega), size_le (by omega), rfl, k d4 _ hd4 ((hrow.cut _ _).app (hrow.cut _ _)) ?_⟩
    rw [len_app]; omega
  · obtain ⟨ys1, e1, m1, s1', l1⟩ := cutA_strs (x :: rest) none (some at')
    obtain ⟨ys2, e2, m2, s2', l2⟩ := cutA_strs (x :: rest) (some (at' + (if (!decide (way = 4)) = true then 1 else 0))) none
    obtain ⟨n, hn1, ek⟩ : ∃ n : Nat, n ≤ 1 ∧ (List.replicate (Int.toNat (if decide (2 < way) = true then 1 else 0)) [D.str zo]).flatten = (List.replicate n zo).map D.str := by
      split
      · exact ⟨1, by omega, rfl⟩
      · exact ⟨0, by omega, rfl⟩
    have hsum : ((ys1 ++ List.replicate n zo ++ ys2).map (·.length)).sum + (ys1 ++ List.replicate n zo ++ ys2).length ≤ 2 * line.length + 30 := by
      have hkz : ((List.replicate n zo).map (·.length)).sum ≤ 20 := by
        match n, hn1 with
        | 0, _ => simp
        | 1, _ => simpa using hol
      rw [List.map_append, List.map_append, List.sum_append, List.sum_append, List.length_append, List.length_append, List.length_replicate]
      omega
    have hln : (ys1 ++ List.replicate n zo ++ ys2).length ≤ 100000 := by omega
    rw [List.length_append, List.length_append] at hln
    have sz : (if decide (2 < way) = true then (1 : Int) else 0) ≤ 1 ∧ 0 ≤ (if decide (2 < way) = true then (1 : Int) else 0) := by split <;> decide
    refine ⟨rfl, lenOk, ?_, ?_, ?_, ?_, ?_, ?_⟩
    · exact Int.le_trans (by decide) sz.2
    · exact Int.lt_of_le_of_lt sz.1 (by decide)
    · have : Int.toNat (if decide (2 < way) = true then (1 : Int) else 0) ≤ 1 := by omega
      show [D.str zo].length * Int.toNat (if decide (2 < way) = true then (1 : Int) else 0) ≤ sizeLine
      exact Nat.le_trans (Nat.mul_le_mul_left _ this) (Nat.le_of_ble_eq_true rfl)
    · show (cutA ((x :: rest).map D.str) none (some at')).length + (List.replicate (Int.toNat (if decide (2 < way) = true then 1 else 0)) [D.str zo]).flatten.length ≤ sizeLine
      rw [e1, ek, List.length_map, List.length_map]
      exact size_le (by omega)
    · show (cutA ((x :: rest).map D.str) none (some at') ++ (List.replicate (Int.toNat (if decide (2 < way) = true then 1 else 0)) [D.str zo]).flatten).length + (cutA ((x :: rest).map D.str) (some (at' + (if (!decide (way = 4)) = true then 1 else 0))) none).length ≤ sizeLine
      rw [e1, ek, e2, List.length_append, List.length_map, List.length_map, List.length_map]
      exact size_le (by omega)
    · show dJoin (.str (Str.ofString " ")) (.lst ((cutA ((x :: rest).map D.str) none (some at') ++ (List.replicate (Int.toNat (if decide (2 < way) = true then 1 else 0)) [D.str zo]).flatten) ++ cutA ((x :: rest).map D.str) (some (at' + (if (!decide (way = 4)) = true then 1 else 0))) none)) _
      rw [e1, ek, e2, ← List.map_append, ← List.map_append]
      refine join_m ?_ ⟨rfl, k d4 _ hd4 (Row.join (row_by (by decide +kernel)) ?_) ?_⟩
      · rw [show (Str.ofString " ").length = 1 by decide +kernel]; omega
      · intro z hz'
        rcases List.mem_append.mp hz' with h | h
        · rcases List.mem_append.mp h with h | h
          · exact hwrow z (m1 z h)
          · rw [List.eq_of_mem_replicate h]; exact ho
        · exact hwrow z (m2 z h)
      · have := join_len (Str.ofString " ") (ys1 ++ List.replicate n zo ++ ys2)
        rw [show (Str.ofString " ").length = 1 by decide +kernel] at this
        omega
section
variable {G : Gx} {P : Program} {wd : World} {mg : Str → Option Value} {base : Heap}
theorem ok__law_bent (T : Tx G wd mg) : PFnK G P wd mg base CX0 3 "_law_bent" 2 false sp__law_bent := by
  have G__law_one_of := ok__law_one_of (P := P) (wd := wd) (base := base) T
  have G__law_roll := ok__law_roll (P := P) (wd := wd) (base := base) T
  refine ⟨⟨T.a__law_bent, T.d__law_bent, ps__law_bent, fnPk T.F__law_bent sc__law_bent (by decide) (w := w__law_bent G) (fun cdv A outer s H E hr => ?_) (pure__law_bent G), T.m__law_bent, T.F__law_bent.kp, T.b__law_bent⟩, len__law_bent⟩
  exact (py_cons (py_par 2 3 rfl sc__law_bent.nd rfl rfl (by decide) rfl rfl (pxa_cons (px_meth PySem.F.plainAttrs_str PySem.F.slot_str_split PySem.F.type_str_split (fun M H v d => tyD_str) splitK split_s (px_name 1) (pxa_cons px_str pxa_nil)) (pxa_cons (px_callPk G__law_roll (hr.mono (by decide)) rfl (pxa_cons (px_name 0) (pxa_cons px_int pxa_nil))) pxa_nil)))
  (py_cons (py_par 4 5 rfl sc__law_bent.nd rfl rfl (by decide) rfl rfl (pxa_cons (px_callPk G__law_roll (hr.mono (by decide)) rfl (pxa_cons (px_name 0) (pxa_cons (px_callB len_anyK len_s rfl T.n_len (by decide +kernel) (pxa_cons (px_name 2) pxa_nil)) pxa_nil))) (pxa_cons (px_callPk G__law_roll (hr.mono (by decide)) rfl (pxa_cons (px_name 0) (pxa_cons (px_op add_ok add_s (px_callB len_anyK len_s rfl T.n_len (by decide +kernel) (pxa_cons (px_name 1) pxa_nil)) px_int) pxa_nil))) pxa_nil)))
  (py_cons (py_set 6 sc__law_bent.nd rfl (Or.inl rfl) (px_lst (pxa_cons px_str (pxa_cons px_str (pxa_cons px_str (pxa_cons px_str (pxa_cons px_str (pxa_cons px_str (pxa_cons px_str (pxa_cons px_str (pxa_cons px_str (pxa_cons px_str (pxa_cons (px_op add_ok add_s px_str (px_op mul_ok mul_s px_str px_int)) (pxa_cons px_str (pxa_cons px_str pxa_nil)))))))))))))))
  (py_cons (py_set 7 sc__law_bent.nd rfl (Or.inl rfl) (px_callPk G__law_one_of (hr.mono (by decide)) rfl (pxa_cons (px_name 0) (pxa_cons (px_name 6) pxa_nil))))
  (py_cons (py_if (pxt_cmp (eq_ok hr.units) eq_s (px_name 3) px_int (nomark _))
  (py_one (py_ret (px_op add_ok add_s (px_op add_ok add_s (px_cut (px_name 1) pxo_none (pxo_some (px_name 5))) (px_callPk G__law_one_of (hr.mono (by decide)) rfl (pxa_cons (px_name 0) (pxa_cons (px_callT (toLst_ok rfl) toLst_s rfl T.n_list (by decide +kernel) (pxa_cons px_str pxa_nil)) pxa_nil)))) (px_cut (px_name 1) (pxo_some (px_name 5)) pxo_none))))
  py_nil)
  (py_cons (py_if (pxt_cmp (eq_ok hr.units) eq_s (px_name 3) px_int (nomark _))
  (py_one (py_ret (px_op add_ok add_s (px_cut (px_name 1) pxo_none (pxo_some (px_name 5))) (px_cut (px_name 1) (pxo_some (px_op add_ok add_s (px_name 5) px_int)) pxo_none))))
  py_nil)
  (py_one (py_ret (px_meth PySem.F.plainAttrs_str PySem.F.slot_str_join PySem.F.type_str_join (fun M H v d => tyD_str) joinK join_s px_str (pxa_cons (px_op add_ok add_s (px_op add_ok add_s (px_cut (px_name 2) pxo_none (pxo_some (px_name 4))) (px_op mul_ok mul_s (px_lst (pxa_cons (px_name 7) pxa_nil)) (px_callT toInt_ok toInt_s rfl T.n_int (by decide +kernel) (pxa_cons (px_cmp gt_ok gt_s (px_name 3) px_int (nomark _)) pxa_nil)))) (px_cut (px_name 2) (pxo_some (px_op add_ok add_s (px_name 4) (px_callT toInt_ok toInt_s rfl T.n_int (by decide +kernel) (pxa_cons (px_cmp (ne_ok hr.units) ne_s (px_name 3) px_int (nomark _)) pxa_nil)))) pxo_none)) pxa_nil))))))))))
end
end Pu
namespace Pu
open PySem PySem.Spec PyProof.Rows L2 Lk Evl StX

open My
def Deed.pd : Deed → PyData
  | .use n => .tuple [.str (Str.ofString "use"), .str n]
  | .store p => .tuple [.str (Str.ofString "store"), .str p]
  | .put p t => .tuple [.str (Str.ofString "put"), .str p, .str t]
  | .move p q => .tuple [.str (Str.ofString "move"), .str p, .str q]
  | .take p fs => .tuple [.str (Str.ofString "take"), .str p, .tuple (fs.map PyData.str)]
theorem Deed.py (e : Deed) : e.data.py = some e.pd := by
  cases e with
  | take p fs =>
    show (D.pys [.str (Str.ofString "take"), .str p, .tup (fs.map D.str)]).map PyData.tuple = _
    simp only [D.pys, D.py, pys_strs]
    rfl
  | _ => rfl
theorem Deed.inj {a b : Deed} (h : a.data = b.data) : a = b := by
  have sj : ∀ {l m : List Str}, l.map D.str = m.map D.str → l = m := fun {l m} h => by
    induction l generalizing m with
    | nil => cases m <;> first | rfl | cases h
    | cons x l ih =>
      cases m with
      | nil => cases h
      | cons y m =>
        rw [List.map_cons, List.map_cons] at h
        injection h with h1 h2
        injection h1 with h1
        rw [h1, ih h2]
  have n1 : Str.ofString "use" ≠ Str.ofString "store" := by decide +kernel
  have n2 : Str.ofString "put" ≠ Str.ofString "move" := by decide +kernel
  have n3 : Str.ofString "put" ≠ Str.ofString "take" := by decide +kernel
  have n4 : Str.ofString "move" ≠ Str.ofString "take" := by decide +kernel
  cases a <;> cases b <;> simp only [Deed.data, D.tup.injEq, List.cons.injEq, D.str.injEq, n1, n2, n3, n4, n1.symm, n2.symm, n3.symm, n4.symm, false_and, and_true, true_and, and_false, reduceCtorEq] at h
  all_goals first
    | (rw [h]; done)
    | (obtain ⟨h1, h2⟩ := h; rw [h1, h2]; done)
    | (obtain ⟨h1, h2⟩ := h; rw [h1, sj h2]; done)
/-- a line's deed -/
noncomputable def readE (r : Str) : Option Deed := match h : readD r with
  | none => none
  | some d => some (Classical.choose (read_shape h))
theorem readE_none {r : Str} : readE r = none ↔ readD r = none := by
  unfold readE
  split
  · rename_i h; exact ⟨fun _ => h, fun _ => rfl⟩
  · rename_i d h; exact ⟨fun z => (nomatch z), fun z => by rw [h] at z; cases z⟩
theorem readE_some {r : Str} {e : Deed} (h : readE r = some e) : readD r = some e.data ∧ e.pre ∧ ∀ z ∈ e.strs, z.length ≤ r.length + 1 ∧ (okS r → okS z) := by
  unfold readE at h
  split at h
  · cases h
  · rename_i d hd
    have := Classical.choose_spec (read_shape hd)
    cases h
    exact ⟨hd.trans (congrArg some this.1), this.2⟩
theorem readE_shape {r : Str} {e : Deed} (h : readE r = some e) : readD r = some e.data ∧ (okS r → ∀ z ∈ e.strs, okS z) := ⟨(readE_some h).1, fun ho z hz => ((readE_some h).2.2 z hz).2 ho⟩
def optD (r : Str) : D := (readD r).getD .non
noncomputable def optP (r : Str) : PyData := match readE r with
  | none => .none
  | some e => e.pd
theorem opt_py (r : Str) : (optD r).py = some (optP r) := by
  unfold optD optP
  cases z : readE r with
  | none => rw [readE_none.mp z]; rfl
  | some e => rw [(readE_some z).1]; exact e.py
theorem opts_py : ∀ rs : List Str, D.pys (rs.map optD) = some (rs.map optP)
  | [] => rfl
  | r :: rs => by rw [List.map_cons, D.pys, opt_py, opts_py rs]; rfl
theorem eqv_none (r : Str) : PyData.eqv (optP r) .none = (readD r).isNone := by
  unfold optP
  cases z : readE r with
  | none => rw [readE_none.mp z]; rfl
  | some e =>
    rw [(readE_some z).1]
    cases e <;> rfl
theorem lay_strs {zs : List Str} (h : ∀ z ∈ zs, okS z) : PyData.canLayAll0 (zs.map PyData.str) = true := by
  induction zs with
  | nil => simp [PyData.canLayAll0]
  | cons z zs ih => simp [PyData.canLayAll0, PyData.canLay0, okS_str (h z List.mem_cons_self), ih fun y hy => h y (List.mem_cons_of_mem _ hy)]
theorem depth_strs (zs : List Str) : PyData.depthAll (zs.map PyData.str) ≤ 1 := by
  induction zs with
  | nil => simp [PyData.depthAll]
  | cons z zs ih =>
    simp only [List.map_cons, PyData.depthAll, PyData.depth]
    omega
theorem deed_lay {e : Deed} (h : ∀ z ∈ e.strs, okS z) : e.pd.canLay0 = true ∧ e.pd.depth ≤ 3 := by
  have kw : okS (Str.ofString "use") ∧ okS (Str.ofString "store") ∧ okS (Str.ofString "put") ∧ okS (Str.ofString "move") ∧ okS (Str.ofString "take") := by
    refine ⟨?_, ?_, ?_, ?_, ?_⟩ <;> exact fun c hc => (row_by (by decide +kernel) c hc).1
  have go : ∀ zs : List Str, (∀ z ∈ zs, okS z) → (PyData.tuple (zs.map PyData.str)).canLay0 = true ∧ (PyData.tuple (zs.map PyData.str)).depth ≤ 2 := by
    intro zs hz
    have := depth_strs zs
    refine ⟨by simp only [PyData.canLay0]; exact lay_strs hz, by simp only [PyData.depth]; omega⟩
  have cons : ∀ {k : Str}, okS k → ∀ {zs : List Str}, (∀ z ∈ zs, okS z) → ∀ z ∈ k :: zs, okS z := fun hk zs hz z hm => by
    rcases List.mem_cons.mp hm with rfl | hm
    · exact hk
    · exact hz z hm
  cases e with
  | use n => have := go (Str.ofString "use" :: [n]) (cons kw.1 h); exact ⟨this.1, by have := this.2; exact Nat.le_succ_of_le this⟩
  | store p => have := go (Str.ofString "store" :: [p]) (cons kw.2.1 h); exact ⟨this.1, Nat.le_succ_of_le this.2⟩
  | put p t => have := go (Str.ofString "put" :: [p, t]) (cons kw.2.2.1 h); exact ⟨this.1, Nat.le_succ_of_le this.2⟩
  | move p t => have := go (Str.ofString "move" :: [p, t]) (cons kw.2.2.2.1 h); exact ⟨this.1, Nat.le_succ_of_le this.2⟩
  | take p fs =>
    have hf := go fs (fun z hz => h z (List.mem_cons_of_mem _ hz))
    have hp := okS_str (h p List.mem_cons_self)
    have hk := okS_str kw.2.2.2.2
    have d1 := hf.2
    refine ⟨?_, ?_⟩
    · show PyData.canLay0 (.tuple [.str (Str.ofString "take"), .str p, .tuple (fs.map PyData.str)]) = true
      simp only [PyData.canLay0, PyData.canLayAll0, hp, hk, Bool.true_and, Bool.and_true]
      have := hf.1
      simp only [PyData.canLay0] at this
      exact this
    · show PyData.depth (.tuple [.str (Str.ofString "take"), .str p, .tuple (fs.map PyData.str)]) ≤ 3
      simp only [PyData.depth, PyData.depthAll] at d1 ⊢
      omega
theorem opt_lay {r : Str} (h : okS r) : (optP r).canLay0 = true ∧ (optP r).depth ≤ 3 := by
  unfold optP
  cases z : readE r with
  | none => exact ⟨rfl, by simp [PyData.depth]⟩
  | some e => exact deed_lay fun y hy => (readE_shape z).2 h y hy
theorem lays {ds : List PyData} (h : ∀ d ∈ ds, d.canLay0 = true ∧ d.depth ≤ 3) : PyData.canLayAll0 ds = true ∧ PyData.depthAll ds ≤ 3 := by
  induction ds with
  | nil => simp [PyData.canLayAll0, PyData.depthAll]
  | cons d ds ih =>
    obtain ⟨a, b⟩ := h d List.mem_cons_self
    obtain ⟨c, e⟩ := ih fun x hx => h x (List.mem_cons_of_mem _ hx)
    simp only [PyData.canLayAll0, PyData.depthAll, a, c, Bool.and_self, true_and]
    omega
theorem shaped_list {ds : List PyData} (h : ∀ d ∈ ds, d.canLay0 = true ∧ d.depth ≤ 3) : SeqAt.shaped (.list ds) = true := by
  obtain ⟨a, b⟩ := lays h
  show (PyData.canLay0 (.list ds) && decide (PyData.depth (.list ds) ≤ 64)) = true
  rw [Bool.and_eq_true]
  refine ⟨by simp only [PyData.canLay0]; exact a, decide_eq_true ?_⟩
  simp only [PyData.depth]
  omega
/-- what reading the rows tells: the number of a row, or the history -/
def dueOf (rows : List Str) : D := match badRow rows with
  | some n => .int n
  | none => if histD (.tup (goodRows rows)) = true then .tup (goodRows rows) else .int rows.length
theorem good_len {rows : List Str} (h : badRow rows = none) : (goodRows rows).length = rows.length := by
  unfold badRow at h
  rw [List.findIdx?_eq_none_iff] at h
  unfold goodRows
  induction rows with
  | nil => rfl
  | cons r rows ih =>
    have h1 := h r List.mem_cons_self
    cases z : readD r with
    | none => rw [z] at h1; cases h1
    | some d =>
      rw [List.filterMap_cons, z]
      show _ + 1 = _ + 1
      rw [ih fun x hx => h x (List.mem_cons_of_mem _ hx)]

def sp__law_told : PSp := fun cells q _ => ∃ text : Str, cells = [.fz (.str text)] ∧ text.length ≤ 800000 ∧ q (dueOf (rowsOf text)) cells
theorem len__law_told : Len 1 sp__law_told := fun cells q eq ⟨z, h, _⟩ => by rw [h]; rfl
/-- reading of _law_told: slots 0:text 1:error, owned - -/
def w__law_told (G : Gx) : WS := (wTryAs G (wRet (wCallP sp_read_history (wCons (wName 0) wNil))) "ParseError" 1 (fun a cls d => (wRet (wXf a cls d "ParseError" "number" G 1))))
theorem pure__law_told (T : G.sub "ParseError" "ParseError" = some true) : Pure false 1 2 sp__law_told (w__law_told G) := by
  intro cells q eq hl hp
  obtain ⟨text, rfl, hz, k⟩ := hp
  refine ⟨np rfl, nd0, .str text, rfl, hz, fun h => (nomatch h), fun t ht => ?_⟩
  cases ht
  unfold dueOf at k
  refine ⟨fun n hn => ?_, fun hn hh => ?_, fun hn hh => ?_⟩
  · rw [hn] at k
    exact ⟨true, T, fun _ a dx => ⟨rfl, rfl, rfl, _, rfl, rfl, k⟩, fun h => nomatch h⟩
  · rw [hn] at k
    simp only [hh, Bool.false_eq_true, if_false] at k
    rw [good_len hn]
    exact ⟨true, T, fun _ a dx => ⟨rfl, rfl, rfl, _, rfl, rfl, k⟩, fun h => nomatch h⟩
  · rw [hn] at k
    simp only [hh, if_true] at k
    exact ⟨rfl, k⟩
end Pu
namespace Pu
open PySem PySem.Spec PyProof.Rows L2 Lk Evl StX

open My
theorem index_of {ds : List D} {y : D} {ps : List PyData} {p pz : PyData} {j : Nat} {k : D → Prop} (e1 : D.pys ds = some ps) (e2 : y.py = some p) (s1 : SeqAt.shaped (.list ps) = true) (s2 : SeqAt.shaped p = true) (h1 : ps[j]? = some pz) (h2 : PyData.eqv pz p = true)
    (h3 : ∀ (m : Nat) (z' : PyData), m < j → ps[m]? = some z' → PyData.eqv z' p = false) (hk : k (.int (j : Nat))) : dIndex (.lst ds) y k := by
  refine ⟨?_⟩
  simp only [e1, e2]
  exact ⟨s1, s2, j, pz, h1, h2, h3, hk⟩
def sp__law_due : PSp := fun cells q _ => ∃ rows : List Str, cells = [.fz (.lst (rows.map D.str))] ∧ rows.length ≤ 1000 ∧ (∀ r ∈ rows, r.length ≤ 100000 ∧ okS r) ∧ q (dueOf rows) cells
theorem len__law_due : Len 1 sp__law_due := fun cells q eq ⟨z, h, _⟩ => by rw [h]; rfl
def w__law_due_3 (G : Gx) : WS := (wRet (wCall (d1 dToTup) (wCons (wName 1) wNil)))
def w__law_due_2 (G : Gx) : WS := (wSeq (wIfS (wOrT (wB (wOp dGt (wCall (d1 dLen) (wCons (wName 1) wNil)) (wC (.int 40)))) (wB (wOp dNe (wV (nLc [3] (wItems (wName 1)) (wgName 3) (wNotT (wTru (wCallP sp__law_is_deed (wCons (wName 3) wNil)))) (wName 3))) (wLst wNil))))
  (wRet (wCall (d1 dLen) (wCons (wName 0) wNil)))
  wNext) (w__law_due_3 G))
def w__law_due_1 (G : Gx) : WS := (wSeq (wIfS (wB (wOp dIn (wC .non) (wName 1)))
  (wRet (wMeth "list" (m1 dIndex) (wName 1) (wCons (wC .non) wNil)))
  wNext) (w__law_due_2 G))
/-- reading of _law_due: slots 0:lines 1:deeds 2:line 3:deed, owned - -/
def w__law_due (G : Gx) : WS := (wSeq (wAsg [1] (wV (nLc [2] (wItems (wName 0)) (wgName 2) wYes (wCallP sp__law_read (wCons (wName 2) wNil)))) (wgName 1)) (w__law_due_1 G))
theorem good_opt {rows : List Str} (h : badRow rows = none) : goodRows rows = rows.map optD := by
  unfold badRow at h
  rw [List.findIdx?_eq_none_iff] at h
  unfold goodRows
  induction rows with
  | nil => rfl
  | cons r l ih =>
    have h1 := h r List.mem_cons_self
    rw [List.filterMap_cons, List.map_cons, ← ih fun x hx => h x (List.mem_cons_of_mem _ hx)]
    unfold optD
    cases z : readD r with
    | none => rw [z] at h1; cases h1
    | some d => rfl
theorem pure__law_due (G : Gx) : Pure false 1 4 sp__law_due (w__law_due G) := by
  intro cells q eq hl hp
  obtain ⟨rows, rfl, hn, hr, k⟩ := hp
  have hol : ∀ rs : List Str, (∀ r ∈ rs, r ∈ rows) → ∀ d ∈ rs.map optP, d.canLay0 = true ∧ d.depth ≤ 3 := fun rs hs d hd => by
    obtain ⟨r, hr', rfl⟩ := List.mem_map.mp hd
    exact opt_lay (hr r (hs r hr')).2
  refine lc_m optD (size_le (by omega)) (fun r K1 K2 hm k => ⟨nd0, r, rfl, by have := (hr r hm).1; omega, (hr r hm).2, k⟩) ⟨np1 rfl, InL.mk (Or.inr ⟨.none, rows.map optP, rfl, opts_py rows, by decide +kernel, shaped_list (hol rows fun _ h => h), ?_⟩)⟩
  have hany : ((rows.map optP).any fun z => PyData.eqv z .none) = (badRow rows).isSome := by
    rw [List.any_map]
    unfold badRow
    rw [List.findIdx?_isSome]
    congr 1
    funext r
    exact eqv_none r
  rw [hany]
  cases hb : badRow rows with
  | some n =>
    have hb' := hb
    unfold badRow at hb'
    rw [List.findIdx?_eq_some_iff_getElem] at hb'
    obtain ⟨hn, hn1, hn2⟩ := hb'
    unfold dueOf at k
    rw [hb] at k
    refine ⟨rfl, index_of (j := n) (pz := optP rows[n]) (opts_py rows) rfl (shaped_list (hol rows fun _ h => h)) (by decide +kernel) ?_ ?_ ?_ ⟨rfl, k⟩⟩
    · rw [List.getElem?_map, List.getElem?_eq_getElem hn]; rfl
    · rw [eqv_none]; exact hn1
    · intro m z hm hz
      rw [List.getElem?_map] at hz
      obtain ⟨r, hr', rfl⟩ := Option.map_eq_some_iff.mp hz
      rw [eqv_none]
      have := hn2 m hm
      obtain ⟨hml, er⟩ := List.getElem?_eq_some_iff.mp hr'
      rw [er] at this
      cases z : readD r with
      | none => rw [z] at this; exact absurd rfl this
      | some _ => rfl
  | none =>
    have hgood := good_opt hb
    unfold dueOf at k
    rw [hb] at k
    dsimp only at k
    rw [hgood] at k
    have e40 : decide ((40 : Int) < ((rows.map optD).length : Nat)) = decide (40 < rows.length) := by rw [List.length_map]; apply decide_eq_decide.mpr; omega
    have hlen : ((rows.map D.str).length : Nat) = rows.length := List.length_map ..
    have fail : histD (.tup (rows.map optD)) = false → q (.int ((rows.map D.str).length : Nat)) [.fz (.lst (rows.map D.str))] := fun h => by
      rw [h] at k
      rw [hlen]; exact k
    refine ite2 (fun h40 => ⟨rfl, fail ?_⟩) (fun h40 => ?_)
    · rw [e40, decide_eq_true_eq] at h40
      show (decide ((rows.map optD).length ≤ 40) && _) = false
      rw [List.length_map, decide_eq_false (by omega), Bool.false_and]
    · rw [e40, decide_eq_false_iff_not] at h40
      refine lc_flt (fun r => !deedD (optD r)) (size_le (by omega)) (fun r K1 K2 hm k1 k2 => ?_) ⟨lenOk, eqD_of (p := .list ((rows.filter fun r => !deedD (optD r)).map optP)) (by rw [D.py, opts_py]; rfl) rfl (shaped_list (hol _ fun r h => (List.mem_filter.mp h).1)) (by decide +kernel) ?_⟩
      · have hs : readD r ≠ none := fun z => by
          have hb' := hb
          unfold badRow at hb'
          rw [List.findIdx?_eq_none_iff] at hb'
          have := hb' r hm
          rw [z] at this; cases this
        cases z : readE r with
        | none => exact absurd (readE_none.mp z) hs
        | some e =>
          obtain ⟨e1, e2, e3⟩ := readE_some z
          have eo : optD r = e.data := by unfold optD; rw [e1]; rfl
          refine ⟨nd0, e, congrArg (fun d => [Cell.fz d]) eo, e2, fun y hy => ⟨by have := (e3 y hy).1; have := (hr r hm).1; omega, (e3 y hy).2 (hr r hm).2⟩, ?_⟩
          exact ite2 (fun h => k1 (by rw [eo]; exact h)) (fun h => k2 (by rw [eo]; exact h))
      · rw [eqv_nil, List.isEmpty_map, flt_nil]
        simp only [Bool.not_not]
        have hall : (rows.all fun r => deedD (optD r)) = (rows.map optD).all deedD := by rw [List.all_map]; rfl
        rw [hall]
        have hh : histD (.tup (rows.map optD)) = (rows.map optD).all deedD := by
          show (decide ((rows.map optD).length ≤ 40) && _) = _
          rw [List.length_map, decide_eq_true (by omega), Bool.true_and]
        refine ite2 (fun h => ⟨rfl, fail (by rw [hh]; simpa using h)⟩) (fun h => ⟨rfl, ?_⟩)
        rw [if_pos (by rw [hh]; simpa using h)] at k
        exact k
section
variable {G : Gx} {P : Program} {wd : World} {mg : Str → Option Value} {base : Heap}
theorem ok__law_told (T : Tx G wd mg) : PFnK G P wd mg base CX0 7 "_law_told" 1 false sp__law_told := by
  have G_read_history := ok_read_history (P := P) (wd := wd) (base := base) T
  refine ⟨⟨T.a__law_told, T.d__law_told, ps__law_told, fnPk T.F__law_told sc__law_told (by decide) (w := w__law_told G) (fun cdv A outer s H E hr => ?_) (pure__law_told T.e_ParseError_ParseError), T.m__law_told, T.F__law_told.kp, T.b__law_told⟩, len__law_told⟩
  exact (py_one (py_tryAs 1 (D := "ParseError") rfl rfl sc__law_told.nd rfl rfl ⟨rfl, rfl, .inl T.m_ParseError⟩ takes0 (fun W pn xe tk hpo => (py_one (py_ret (px_callXk G_read_history tk (hr.mono (by decide)) rfl (pxa_cons (px_name 0) pxa_nil))))) (fun a oe cls d pn hz hf => (py_one (py_ret (px_xf 1 T.xf_ParseError T.no_ParseError hz hf (pv 1)))))))
theorem ok__law_due (T : Tx G wd mg) : PFnK G P wd mg base CX0 4 "_law_due" 1 false sp__law_due := by
  have G__law_read := ok__law_read (P := P) (wd := wd) (base := base) T
  have G__law_is_deed := ok__law_is_deed (P := P) (wd := wd) (base := base) T
  refine ⟨⟨T.a__law_due, T.d__law_due, ps__law_due, fnPk T.F__law_due sc__law_due (by decide) (w := w__law_due G) (fun cdv A outer s H E hr => ?_) (pure__law_due G), T.m__law_due, T.F__law_due.kp, T.b__law_due⟩, len__law_due⟩
  exact (py_cons (py_setLc 1 (own := [("line", 2)]) (by decide) rfl sc__law_due.nd rfl rfl (sw_true rfl rfl rfl (by decide +kernel)) (pxi_any (px_name 0)) (blkOk_by (N := nm__law_due) (sc := defScope s__law_due) (by decide +kernel)) (fun _ _ _ _ _ => (pxg_name 2 sc__law_due.nd rfl (Or.inl rfl))) (fun _ _ _ _ _ => pxts_nil) (fun _ _ _ _ _ => (px_callPk G__law_read (hr.mono (by decide)) rfl (pxa_cons (px_name 2) pxa_nil))))
  (py_cons (py_if (pxt_cmp (in_ok hr.units65) in_s px_non (px_name 1) (by rfl))
  (py_one (py_ret (px_meth PySem.F.plainAttrs_list PySem.F.slot_list_index PySem.F.type_list_index (fun M H v d => tyD_list) (indexDK hr.units65) index_s (px_name 1) (pxa_cons px_non pxa_nil))))
  py_nil)
  (py_cons (py_if (pxw (pxw_or (pxt_cmp gt_ok gt_s (px_callB len_anyK len_s rfl T.n_len (by decide +kernel) (pxa_cons (px_name 1) pxa_nil)) px_int (nomark _)) (pxw_or1 (pxt_cmp (ne_ok hr.units) ne_s (pxn (pxn_lc (own := [("deed", 3)]) (by decide) rfl sc__law_due.nd (pxi_any (px_name 1)) (blkOk_by (N := nm__law_due) (sc := defScope s__law_due) (by decide +kernel)) (fun _ _ _ _ _ => (pxg_name 3 sc__law_due.nd rfl (Or.inl rfl))) (fun _ _ _ _ _ => pxts_one (pxt_not (pxt_val (px_callPk G__law_is_deed (hr.mono (by decide)) rfl (pxa_cons (px_name 3) pxa_nil))))) (fun _ _ _ _ _ => (px_name 3)))) (px_lst pxa_nil) (nomark _)))))
  (py_one (py_ret (px_callB len_anyK len_s rfl T.n_len (by decide +kernel) (pxa_cons (px_name 0) pxa_nil))))
  py_nil)
  (py_one (py_ret (px_callT tuple_ofK toTup_s rfl T.n_tuple (by decide +kernel) (pxa_cons (px_name 1) pxa_nil)))))))
end
end Pu
namespace Pu
open PySem PySem.Spec PyProof.Rows L2 Lk Evl StX

open My
mutual
def toP : D → PyData
  | .str z => .str z
  | .int i => .int i
  | .bl b => .bool b
  | .tup ds => .tuple (toPs ds)
  | .lst ds => .list (toPs ds)
  | _ => .none
def toPs : List D → List PyData
  | [] => []
  | d :: ds => toP d :: toPs ds
end
theorem toPs_strs : ∀ zs : List Str, toPs (zs.map D.str) = zs.map PyData.str
  | [] => rfl
  | z :: zs => by rw [List.map_cons, List.map_cons, toPs, toPs_strs zs]; rfl
theorem toP_deed (e : Deed) : toP e.data = e.pd := by
  cases e with
  | take p fs =>
    show PyData.tuple [toP (.str (Str.ofString "take")), toP (.str p), toP (.tup (fs.map D.str))] = _
    rw [show toP (.tup (fs.map D.str)) = .tuple (toPs (fs.map D.str)) from rfl, toPs_strs]; rfl
  | _ => rfl
theorem is_strs (zs : List Str) : PyData.intsShortAll 13 (zs.map PyData.str) = true ∧ PyData.showableAll (zs.map PyData.str) = true ∧ PyData.hasDictAll (zs.map PyData.str) = false := by
  induction zs with
  | nil => exact ⟨rfl, rfl, rfl⟩
  | cons z zs ih =>
    obtain ⟨a, b, c⟩ := ih
    simp only [List.map_cons, PyData.intsShortAll, PyData.intsShort, PyData.showableAll, PyData.showable, PyData.hasDictAll, PyData.hasDict, a, b, c, Bool.and_self, Bool.or_self, and_self]
theorem deed_plain (e : Deed) : e.pd.intsShort 13 = true ∧ e.pd.showable = true ∧ e.pd.hasDict = false := by
  cases e with
  | use n => exact is_strs [Str.ofString "use", n]
  | store p => exact is_strs [Str.ofString "store", p]
  | put p t => exact is_strs [Str.ofString "put", p, t]
  | move p t => exact is_strs [Str.ofString "move", p, t]
  | take p fs =>
    obtain ⟨a, b, c⟩ := is_strs fs
    simp only [Deed.pd, PyData.intsShort, PyData.intsShortAll, PyData.showable, PyData.showableAll, PyData.hasDict, PyData.hasDictAll, a, b, c, Bool.and_self, Bool.or_self, and_self]
/-- what repr wants of data -/
def Shows (d : PyData) : Prop := d.showable = true ∧ d.hasDict = false ∧ d.depth ≤ 60 ∧ d.shown.length ≤ sizeLine
theorem int_shows : ∀ n : Nat, n < 64 → Shows (.int n) := by
  have : ∀ n : Nat, n < 64 → (PyData.showable (.int n) = true ∧ PyData.hasDict (.int n) = false ∧ PyData.depth (.int n) ≤ 60 ∧ (PyData.shown (.int n)).length ≤ 1000) := by decide +kernel
  intro n h
  obtain ⟨a, b, c, d⟩ := this n h
  exact ⟨a, b, c, sizeL (by omega)⟩
theorem tuple_shows {ds : List PyData} (h : ∀ d ∈ ds, d.canLay0 = true ∧ d.depth ≤ 3 ∧ d.intsShort 13 = true ∧ d.showable = true ∧ d.hasDict = false) (hw : PyData.weightAll ds ≤ 1000000) : Shows (.tuple ds) := by
  obtain ⟨l1, l2⟩ := lays fun d hd => ⟨(h d hd).1, (h d hd).2.1⟩
  have all : PyData.intsShortAll 13 ds = true ∧ PyData.showableAll ds = true ∧ PyData.hasDictAll ds = false := by
    clear l1 l2 hw
    induction ds with
    | nil => exact ⟨rfl, rfl, rfl⟩
    | cons d ds ih =>
      obtain ⟨a, b, c⟩ := ih fun x hx => h x (List.mem_cons_of_mem _ hx)
      obtain ⟨_, _, x, y, z⟩ := h d List.mem_cons_self
      simp only [PyData.intsShortAll, PyData.showableAll, PyData.hasDictAll, a, b, c, x, y, z, Bool.and_self, Bool.or_self, and_self]
  have hl : PyData.canLay0 (.tuple ds) = true := by simp only [PyData.canLay0]; exact l1
  have hi : PyData.intsShort 13 (.tuple ds) = true := by simp only [PyData.intsShort]; exact all.1
  have hd : PyData.depth (.tuple ds) ≤ 60 := by simp only [PyData.depth]; omega
  refine ⟨by simp only [PyData.showable]; exact all.2.1, by simp only [PyData.hasDict]; exact all.2.2, hd, ?_⟩
  have hs : (PyData.shown (.tuple ds)).length ≤ 15728653 := PyProof.Rows.shown_le13 (by
    show (PyData.canLay0 (.tuple ds) && decide (PyData.depth (.tuple ds) ≤ 64) && decide (PyData.weight (.tuple ds) ≤ 2 ^ 20)) = true
    rw [hl, decide_eq_true (by omega), Bool.true_and, Bool.true_and, decide_eq_true_eq]
    simp only [PyData.weight]
    have : (2 : Nat) ^ 20 = 1048576 := by decide
    omega) hi
  rw [sizeLine_eq]; omega
theorem weight_strs (zs : List Str) : PyData.weightAll (zs.map PyData.str) = (zs.map (·.length)).sum + zs.length := by
  induction zs with
  | nil => rfl
  | cons z zs ih =>
    simp only [List.map_cons, PyData.weightAll, PyData.weight, List.sum_cons, List.length_cons, ih]
    show z.length + 1 + _ = _
    omega
theorem sum_cut (zs : List Str) : ((zs.map cut1).map (·.length)).sum ≤ (zs.map (·.length)).sum := by
  induction zs with
  | nil => exact Nat.le_refl _
  | cons z zs ih =>
    simp only [List.map_cons, List.sum_cons]
    have := len_cut z (some 1) none
    unfold cut1 at ih ⊢
    omega
theorem readD_weight {line : Str} {d : D} (h : readD line = some d) : (toP d).weight ≤ line.length + 2 := by
  have hw := PyProof.Rows.split_weight line (Str.ofString " ") (by decide +kernel)
  unfold readD at h
  cases hs : Txt.split line (Str.ofString " ") with
  | nil => rw [hs] at h; cases h
  | cons x rest =>
    rw [hs] at h hw
    have hc := sum_cut rest
    have hcl : (rest.map cut1).length = rest.length := List.length_map ..
    simp only [List.map_cons, List.sum_cons, List.length_cons] at hw
    dsimp only at h
    split at h
    · split at h
      · rename_i y
        split at h
        · cases h
        · cases h
          have e := weight_strs [x, y]
          simp only [List.map_cons, List.map_nil, List.sum_cons, List.sum_nil, List.length_cons, List.length_nil] at e hw
          show PyData.weightAll [.str x, .str y] ≤ _
          omega
      · cases h
    · split at h
      · generalize rest.map cut1 = ts at hc hcl h
        split at h
        · split at h
          · cases h
          · rename_i _ t more
            cases h
            have e := weight_strs more
            simp only [List.map_cons, List.sum_cons, List.length_cons] at hc hcl
            have ex : x.cps.size = x.length := rfl
            have et : t.cps.size = t.length := rfl
            show PyData.weight (.tuple [.str x, .str t, .tuple (toPs (more.map D.str))]) ≤ _
            rw [toPs_strs]
            simp only [PyData.weight, PyData.weightAll, e, ex, et]
            omega
        · split at h
          · cases h
            have e := weight_strs (x :: ts)
            show PyData.weight (.tuple (.str x :: toPs (ts.map D.str))) ≤ _
            rw [toPs_strs]
            simp only [List.map_cons, List.sum_cons, List.length_cons] at e
            simp only [PyData.weight]
            rw [e]
            omega
          · cases h
      · cases h
theorem txt_row {z : Str} (h : txtS z = true) : Row z := fun c hc => by
  have := of_decide_eq_true (List.all_eq_true.mp h c hc)
  have k : ∀ c ∈ sigs, c < 0x110000 ∧ c ≠ 10 := by decide +kernel
  exact k c this
theorem name_row {z : Str} (h : nameS z = true) : Row z := fun c hc => by
  unfold nameS at h
  rw [Bool.and_eq_true] at h
  have := of_decide_eq_true (List.all_eq_true.mp h.2 c hc)
  have k : ∀ c ∈ letters, c < 0x110000 ∧ c ≠ 10 := by decide +kernel
  exact k c this
theorem eqW_row {z : Str} (h : Row z) : Row (eqW z) := Row.app (row_by (by decide +kernel)) h
theorem line_row {e : Deed} (h : e.ok) : Row e.line := by
  have sp : Row (Str.ofString " ") := row_by (by decide +kernel)
  have k1 : Row (Str.ofString "use") := row_by (by decide +kernel)
  have k2 : Row (Str.ofString "store") := row_by (by decide +kernel)
  have k3 : Row (Str.ofString "put") := row_by (by decide +kernel)
  have k4 : Row (Str.ofString "move") := row_by (by decide +kernel)
  have k5 : Row (Str.ofString "take") := row_by (by decide +kernel)
  refine Row.join sp fun z hz => ?_
  cases e with
  | use n =>
    simp only [Deed.words, List.mem_cons, List.not_mem_nil, or_false] at hz
    rcases hz with rfl | rfl
    · exact k1
    · exact name_row h
  | store p =>
    simp only [Deed.words, List.mem_cons, List.not_mem_nil, or_false] at hz
    rcases hz with rfl | rfl
    · exact k2
    · exact eqW_row (txt_row (path_txt h))
  | put p t =>
    simp only [Deed.words, List.mem_cons, List.not_mem_nil, or_false] at hz
    rcases hz with rfl | rfl | rfl
    · exact k3
    · exact eqW_row (txt_row (path_txt h.1))
    · exact eqW_row (txt_row h.2)
  | move p t =>
    simp only [Deed.words, List.mem_cons, List.not_mem_nil, or_false] at hz
    rcases hz with rfl | rfl | rfl
    · exact k4
    · exact eqW_row (txt_row (path_txt h.1))
    · exact eqW_row (txt_row (path_txt h.2))
  | take p fs =>
    simp only [Deed.words, List.mem_cons, List.mem_map] at hz
    rcases hz with rfl | rfl | ⟨f, hf, rfl⟩
    · exact k5
    · exact eqW_row (txt_row (path_txt h.1))
    · exact eqW_row (txt_row (h.2 f hf))
theorem rows_back {rows : List Str} (hr : ∀ r ∈ rows, Row r) (h : Txt.join (Str.ofString "\n") rows ≠ Str.ofString "") : rowsOf (Txt.join (Str.ofString "\n") rows) = rows := by
  unfold rowsOf
  rw [if_neg h]
  refine TL.split_join (s := 10) (S := []) (by decide +kernel) (by decide +kernel) (fun e => h ?_) fun p hp hm => (hr p hp 10 hm).2 rfl
  rw [e]
  rfl
/-- the lines of good deeds are read as the deeds -/
theorem lines_due {es : List Deed} (h : ∀ e ∈ es, e.ok) (hl : es.length ≤ 40) : badRow (es.map Deed.line) = none ∧ goodRows (es.map Deed.line) = es.map Deed.data ∧ histD (.tup (es.map Deed.data)) = true := by
  refine ⟨?_, ?_, ?_⟩
  · unfold badRow
    rw [List.findIdx?_eq_none_iff]
    intro r hr
    obtain ⟨e, he, rfl⟩ := List.mem_map.mp hr
    rw [read_line (h e he)]
    rfl
  · unfold goodRows
    clear hl
    induction es with
    | nil => rfl
    | cons e es ih =>
      rw [List.map_cons, List.filterMap_cons, read_line (h e List.mem_cons_self), ih fun x hx => h x (List.mem_cons_of_mem _ hx)]
      rfl
  · show (decide ((es.map Deed.data).length ≤ 40) && (es.map Deed.data).all deedD) = true
    rw [List.length_map, decide_eq_true hl, Bool.true_and, List.all_eq_true]
    intro d hd
    obtain ⟨e, he, rfl⟩ := List.mem_map.mp hd
    exact ok_deed (h e he)

theorem opt_weight {n : Nat} : ∀ {rows : List Str}, (∀ r ∈ rows, r.length ≤ n) → PyData.weightAll (rows.map optP) ≤ rows.length * (n + 3)
  | [], _ => Nat.zero_le _
  | r :: rows, h => by
    have ih := opt_weight fun x hx => h x (List.mem_cons_of_mem _ hx)
    have h1 := h r List.mem_cons_self
    rw [List.map_cons, List.length_cons, Nat.add_mul]
    have : (optP r).weight ≤ n + 2 := by
      unfold optP
      cases z : readE r with
      | none => simp [PyData.weight]
      | some e =>
        have := readD_weight (readE_some z).1
        rw [toP_deed] at this
        show e.pd.weight ≤ _
        omega
    simp only [PyData.weightAll]
    omega
/-- what repr wants -/
structure ShowsD (d : D) : Prop where
  ex : ∃ p, d.py = some p ∧ Shows p
theorem repr_m {d : D} {k : D → Prop} (h : ShowsD d) (hk : ∀ p, d.py = some p → k (.str p.shown)) : dRepr d k := by
  obtain ⟨p, e, a, b, c, f⟩ := h.ex
  refine ⟨?_⟩
  simp only [e, optK]
  exact ⟨a, b, c, f, hk p e⟩
theorem due_shows {rows : List Str} {n : Nat} (hr : ∀ r ∈ rows, okS r ∧ r.length ≤ n) (hl : rows.length < 64) (hn : n ≤ 10000) : ShowsD (dueOf rows) := by
  unfold dueOf
  cases hb : badRow rows with
  | some k =>
    refine ⟨_, rfl, int_shows k ?_⟩
    unfold badRow at hb
    rw [List.findIdx?_eq_some_iff_getElem] at hb
    obtain ⟨h, _⟩ := hb
    omega
  | none =>
    dsimp only
    split
    · rw [good_opt hb]
      refine ⟨.tuple (rows.map optP), by rw [D.py, opts_py]; rfl, tuple_shows (fun d hd => ?_) ?_⟩
      · obtain ⟨r, hr', rfl⟩ := List.mem_map.mp hd
        have a := opt_lay (hr r hr').1
        refine ⟨a.1, a.2, ?_⟩
        unfold optP
        cases z : readE r with
        | none => exact ⟨rfl, rfl, rfl⟩
        | some e => exact deed_plain e
      · have := opt_weight fun r hr' => (hr r hr').2
        have h2 : rows.length * (n + 3) ≤ 64 * 10003 := Nat.mul_le_mul (by omega) (by omega)
        omega
    · exact ⟨_, rfl, int_shows _ hl⟩
theorem deeds_shows {es : List Deed} (h : ∀ e ∈ es, e.ok) (hl : es.length ≤ 40) (hw : ∀ e ∈ es, e.weight ≤ 1000) : ShowsD (.tup (es.map Deed.data)) := by
  obtain ⟨a, b, c⟩ := lines_due h hl
  have := due_shows (rows := es.map Deed.line) (n := 1000) (fun r hr => by
    obtain ⟨e, he, rfl⟩ := List.mem_map.mp hr
    have := line_len e
    have := hw e he
    exact ⟨(line_row (h e he)).ok, by omega⟩) (by rw [List.length_map]; omega) (by omega)
  unfold dueOf at this
  rw [a] at this
  simp only [b, c, if_true] at this
  exact this
theorem deed_big (e : Deed) : big e.data ≤ e.weight + 5 := by
  have ws : ∀ (z : Str), z ∈ e.words → z.length ≤ e.weight := fun z hz => word_weight hz
  have lw : (Str.ofString "use").length = 3 ∧ (Str.ofString "store").length = 5 ∧ (Str.ofString "put").length = 3 ∧ (Str.ofString "move").length = 4 ∧ (Str.ofString "take").length = 4 := by decide +kernel
  have le : ∀ z : Str, (eqW z).length = z.length + 1 := len_eqW
  cases e with
  | use n =>
    have a := ws n (by simp [Deed.words])
    refine big_tuple (ds := [Str.ofString "use", n].map D.str) (by show 2 ≤ _; omega) (big_strs fun z hz => ?_)
    simp only [List.mem_cons, List.not_mem_nil, or_false] at hz
    rcases hz with rfl | rfl <;> omega
  | store p =>
    have a := ws (eqW p) (by simp [Deed.words])
    rw [le] at a
    refine big_tuple (ds := [Str.ofString "store", p].map D.str) (by show 2 ≤ _; omega) (big_strs fun z hz => ?_)
    simp only [List.mem_cons, List.not_mem_nil, or_false] at hz
    rcases hz with rfl | rfl <;> omega
  | put p t =>
    have a := ws (eqW p) (by simp [Deed.words])
    have b := ws (eqW t) (by simp [Deed.words])
    rw [le] at a b
    refine big_tuple (ds := [Str.ofString "put", p, t].map D.str) (by show 3 ≤ _; omega) (big_strs fun z hz => ?_)
    simp only [List.mem_cons, List.not_mem_nil, or_false] at hz
    rcases hz with rfl | rfl | rfl <;> omega
  | move p t =>
    have a := ws (eqW p) (by simp [Deed.words])
    have b := ws (eqW t) (by simp [Deed.words])
    rw [le] at a b
    refine big_tuple (ds := [Str.ofString "move", p, t].map D.str) (by show 3 ≤ _; omega) (big_strs fun z hz => ?_)
    simp only [List.mem_cons, List.not_mem_nil, or_false] at hz
    rcases hz with rfl | rfl | rfl <;> omega
  | take p fs =>
    have a := ws (eqW p) (by simp [Deed.words])
    rw [le] at a
    have n := words_weight (.take p fs)
    simp only [Deed.words, List.length_cons, List.length_map] at n
    have hf : ∀ f ∈ fs, f.length ≤ Deed.weight (.take p fs) := fun f hf => by
      have := ws (eqW f) (by simp only [Deed.words, List.mem_cons, List.mem_map]; exact .inr (.inr ⟨f, hf, rfl⟩))
      rw [le] at this
      omega
    refine big_tuple (ds := [.str (Str.ofString "take"), .str p, .tup (fs.map D.str)]) (by show 3 ≤ _; omega) (bigs_le fun d hd => ?_)
    simp only [List.mem_cons, List.not_mem_nil, or_false] at hd
    rcases hd with rfl | rfl | rfl
    · show (Str.ofString "take").length ≤ _; omega
    · show p.length ≤ _; omega
    · exact big_tuple (by rw [List.length_map]; omega) (big_strs fun z hz => by have := hf z hz; omega)
theorem deeds_big {es : List Deed} {n : Nat} (hw : ∀ e ∈ es, e.weight ≤ n) (hl : es.length ≤ n + 5) : big (.tup (es.map Deed.data)) ≤ n + 5 :=
  big_tuple (by rw [List.length_map]; exact hl) (bigs_le fun d hd => by
    obtain ⟨e, he, rfl⟩ := List.mem_map.mp hd
    have := deed_big e
    have := hw e he
    omega)
theorem weights_le {n : Nat} : ∀ {es : List Deed}, (∀ e ∈ es, e.weight ≤ n) → weights es ≤ es.length * n
  | [], _ => Nat.zero_le _
  | e :: es, h => by
    have := weights_le fun x hx => h x (List.mem_cons_of_mem _ hx)
    have := h e List.mem_cons_self
    unfold weights at *
    rw [List.map_cons, List.sum_cons, List.length_cons, Nat.add_mul]
    omega
theorem lens_le {n : Nat} : ∀ {zs : List Str}, (∀ z ∈ zs, z.length ≤ n) → (zs.map (·.length)).sum ≤ zs.length * n
  | [], _ => Nat.zero_le _
  | e :: es, h => by
    have := lens_le fun x hx => h x (List.mem_cons_of_mem _ hx)
    have := h e List.mem_cons_self
    rw [List.map_cons, List.sum_cons, List.length_cons, Nat.add_mul]
    omega
theorem text_some {es : List Deed} (h : ∀ e ∈ es, e.ok) (hne : es ≠ []) : hText es ≠ Str.ofString "" := fun e0 => by
  have hs : Txt.split (Txt.join (Str.ofString "\n") (es.map Deed.line)) (Str.ofString "\n") = es.map Deed.line :=
    TL.split_join (s := 10) (S := []) (by decide +kernel) (by decide +kernel) (fun e => hne (List.map_eq_nil_iff.mp e)) fun p hp hm => by
      obtain ⟨e, he, rfl⟩ := List.mem_map.mp hp
      exact (line_row (h e he) 10 hm).2 rfl
  have hz : Txt.split (Str.ofString "") (Str.ofString "\n") = [Str.ofString ""] := by decide +kernel
  have e1 : Txt.join (Str.ofString "\n") (es.map Deed.line) = Str.ofString "" := e0
  rw [e1, hz] at hs
  match es, hne, hs, h with
  | e :: rest, _, hs, h =>
    rw [List.map_cons] at hs
    injection hs with h1 h2
    have hr := read_line (h e List.mem_cons_self)
    rw [← h1] at hr
    have hn : (readD (Str.ofString "")).isNone = true := by decide +kernel
    rw [hr] at hn
    cases hn
end Pu
namespace Pu
open PySem PySem.Spec PyProof.Rows L2 Lk Evl StX

open My
theorem deeds_of {ys : List D} {p : Deed → Prop} (h : ∀ y ∈ ys, ∃ e : Deed, y = e.data ∧ p e) : ∃ es : List Deed, ys = es.map Deed.data ∧ ∀ e ∈ es, p e := by
  induction ys with
  | nil => exact ⟨[], rfl, fun _ h => nomatch h⟩
  | cons y ys ih =>
    obtain ⟨z, rfl, hz⟩ := h y List.mem_cons_self
    obtain ⟨zs, rfl, hzs⟩ := ih fun y hy => h y (List.mem_cons_of_mem _ hy)
    exact ⟨z :: zs, rfl, fun x hx => by
      rcases List.mem_cons.mp hx with rfl | hx
      · exact hz
      · exact hzs x hx⟩
theorem datas_inj : ∀ {a b : List Deed}, a.map Deed.data = b.map Deed.data → a = b
  | [], [], _ => rfl
  | [], _ :: _, h => nomatch h
  | _ :: _, [], h => nomatch h
  | x :: a, y :: b, h => by
    rw [List.map_cons, List.map_cons] at h
    injection h with h1 h2
    rw [Deed.inj h1, datas_inj h2]
def sp__law_right : PSp := fun cells q _ => ∃ d : D, cells = [.ow d] ∧ isDice d ∧ ∀ d', isDice d' → q (.bl true) [.ow d']
theorem len__law_right : Len 1 sp__law_right := fun cells q eq ⟨z, h, _⟩ => by rw [h]; rfl
def w__law_right_6 (G : Gx) : WS := (wRet (wC (.bl true)))
def w__law_right_5 (G : Gx) : WS := (wSeq (wFor [2] (wRng1 (wCons (wC (.int 4)) wNil)) (wgName 2)
  (wSeq (wParN 6 7 (nCall (l1 lToLst) (wCons (wName 4) wNil)) (wCallP sp__law_roll (wCons (wName 0) (wCons (wName 1) wNil))))
  (wSeq (wStore 6 (wCallP sp__law_bent (wCons (wName 0) (wCons (wOp dIx (wName 6) (wName 7)) wNil))) (wName 7))
  (wJoin (wIfS (wB (wOp dEq (wCallP sp__law_roll (wCons (wName 0) (wCons (wC (.int 2)) wNil))) (wC (.int 0))))
  (wSeq (wAsg [8] (wCallP sp__law_roll (wCons (wName 0) (wCons (wName 1) wNil))) (wgName 8))
  (wStore 6 (wCallP sp__law_bent (wCons (wName 0) (wCons (wOp dIx (wName 6) (wName 8)) wNil))) (wName 8)))
  wNext)
  (wFreeze 6 (wIfS (wAndT (wB (wOp dNe (wMeth "str" (m1 dJoin) (wC (.str (Str.ofString "\n"))) (wCons (wName 6) wNil)) (wC (.str (Str.ofString ""))))) (wB (wOp dNe (wCall (d1 dRepr) (wCons (wCallP sp__law_told (wCons (wMeth "str" (m1 dJoin) (wC (.str (Str.ofString "\n"))) (wCons (wName 6) wNil)) wNil)) wNil)) (wCall (d1 dRepr) (wCons (wCallP sp__law_due (wCons (wName 6) wNil)) wNil)))))
  (wRet (wC (.bl false)))
  wNext)))))) (w__law_right_6 G))
def w__law_right_4 (G : Gx) : WS := (wSeq (wIfS (wOrT (wB (wOp dNe (wCallP sp_write_history (wCons (wCall (d1 dToTup) (wCons (wName 3) wNil)) wNil)) (wName 5))) (wB (wOp dNe (wCall (d1 dRepr) (wCons (wCallP sp_read_history (wCons (wName 5) wNil)) wNil)) (wCall (d1 dRepr) (wCons (wCall (d1 dToTup) (wCons (wName 3) wNil)) wNil)))))
  (wRet (wC (.bl false)))
  wNext) (w__law_right_5 G))
def w__law_right_3 (G : Gx) : WS := (wSeq (wAsg [5] (wMeth "str" (m1 dJoin) (wC (.str (Str.ofString "\n"))) (wCons (wName 4) wNil)) (wgName 5)) (w__law_right_4 G))
def w__law_right_2 (G : Gx) : WS := (wSeq (wAsg [4] (wV (nLc [9] (wItems (wName 3)) (wgName 9) wYes (wCallP sp__law_line (wCons (wName 9) wNil)))) (wgName 4)) (w__law_right_3 G))
def w__law_right_1 (G : Gx) : WS := (wSeq (wAsg [3] (wV (nLc [2] (wRng1 (wCons (wName 1) wNil)) (wgName 2) wYes (wCallP sp__law_deed (wCons (wName 0) wNil)))) (wgName 3)) (w__law_right_2 G))
/-- reading of _law_right: slots 0:dice 1:size 2:turn 3:deeds 4:lines 5:text 6:rows 7:at 8:spot 9:deed, owned dice rows -/
def w__law_right (G : Gx) : WS := (wSeq (wAsg [1] (wCallP sp__law_one_of (wCons (wName 0) (wCons (wLst (wCons (wC (.int 1)) (wCons (wC (.int 2)) (wCons (wC (.int 3)) (wCons (wC (.int 7)) (wCons (wC (.int 40)) wNil)))))) wNil))) (wgName 1)) (w__law_right_1 G))
theorem pure__law_right (G : Gx) : Pure false 1 10 sp__law_right (w__law_right G) := by
  intro cells q eq hl hp
  obtain ⟨d, rfl, hd, k⟩ := hp
  refine ⟨lenOk, nd1, d, _, _, _, rfl, hd, .inl rfl, rfl, fun h => (nomatch h), lenOk, fun d1 x hd1 hx => ⟨np1 rfl, ?_⟩⟩
  obtain ⟨n, rfl, n1, n40⟩ : ∃ n : Nat, x = .int (n : Nat) ∧ 1 ≤ n ∧ n ≤ 40 := by
    simp only [List.mem_cons, List.not_mem_nil, or_false] at hx
    rcases hx with rfl | rfl | rfl | rfl | rfl
    · exact ⟨1, rfl, by decide, by decide⟩
    · exact ⟨2, rfl, by decide, by decide⟩
    · exact ⟨3, rfl, by decide, by decide⟩
    · exact ⟨7, rfl, by decide, by decide⟩
    · exact ⟨40, rfl, by decide, by decide⟩
  refine ⟨⟨by omega, by omega⟩, ?_⟩
  refine lc_dice (tl' := [.fz (.int (n : Nat)), .un, .un, .un, .un, .un, .un, .un, .un]) (fun _ y => ∃ e : Deed, y = e.data ∧ e.ok ∧ e.weight ≤ 200) rfl hd1 (by rw [List.length_range]; exact size_le (by omega)) (fun a d' K1 K2 ha hd' k => ⟨nd1, d', rfl, hd', fun d2 e hd2 he hw => k d2 _ hd2 ⟨e, rfl, he, hw⟩⟩) (fun ys d2 hd2 hl hs => ?_)
  obtain ⟨es, rfl, hes⟩ := deeds_of (p := fun e => e.ok ∧ e.weight ≤ 200) (all_of hl hs)
  rw [List.length_map, List.length_range] at hl
  have hen : es.length = n := by omega
  have hok : ∀ e ∈ es, e.ok := fun e he => (hes e he).1
  have hw2 : ∀ e ∈ es, e.weight ≤ 200 := fun e he => (hes e he).2
  have nl1 : (Str.ofString "\n").length = 1 := by decide +kernel
  have hlr : ∀ r ∈ es.map Deed.line, Row r ∧ r.length ≤ 200 := fun r hr => by
    obtain ⟨e, he, rfl⟩ := List.mem_map.mp hr
    exact ⟨line_row (hok e he), Nat.le_trans (line_len e) (hw2 e he)⟩
  have hlsum := lens_le fun r hr => (hlr r hr).2
  rw [List.length_map, hen] at hlsum
  obtain ⟨hb, hg, hh⟩ := lines_due hok (by omega)
  have hbig := deeds_big (n := 200) hw2 (by omega)
  have hwt := weights_le hw2
  have hne : hText es ≠ Str.ofString "" := text_some hok (fun e => by rw [e] at hen; simp at hen; omega)
  have hrows : rowsOf (hText es) = es.map Deed.line := rows_back (fun r hr => (hlr r hr).1) hne
  have htl : (hText es).length ≤ 800000 := by
    have := join_len (Str.ofString "\n") (es.map Deed.line)
    rw [nl1, List.length_map] at this
    unfold hText
    omega
  have hsh := deeds_shows hok (by omega) (fun e he => by have := hw2 e he; omega)
  have el : (es.map fun e => D.str e.line) = (es.map Deed.line).map D.str := by rw [List.map_map]; rfl
  refine ⟨np1 rfl, lc_m (xs := es) (g := Deed.data) (fun e => .str e.line) (size_le (by omega)) (fun e K1 K2 he k => ⟨nd0, e, rfl, by have := hw2 e he; omega, k⟩) ?_⟩
  rw [el]
  refine ⟨np1 rfl, rfl, join_m (by rw [nl1, List.length_map]; omega) ⟨np1 rfl, ?_⟩⟩
  refine ⟨nd0, _, rfl, Nat.le_trans hbig (by decide), fun _ es' he' _ _ => ?_, fun h => by rw [hh] at h; cases h⟩
  obtain rfl : es = es' := by
    exact datas_inj (D.tup.inj he')
  refine ⟨by rw [hen] at hwt; omega, ite2 (fun h => absurd h (by simp [hText])) (fun _ => ?_)⟩
  refine ⟨nd0, .str (hText es), rfl, htl, fun h => (nomatch h), fun t et => ?_⟩
  cases et
  rw [hrows, hb, hg]
  refine ⟨fun n h => (nomatch h), fun _ h => (by rw [hh] at h; cases h), fun _ _ => repr_m hsh fun p hp => repr_m hsh fun p2 hp2 => ?_⟩
  obtain rfl : p = p2 := Option.some.inj (hp.symm.trans hp2)
  refine ite2 (fun h => absurd h (by simp)) (fun _ => ?_)
  -- a row bent
  have bent : ∀ (rows : List Str) (m : Nat) (r : Int), rows.length = n → (∀ z ∈ rows, Row z ∧ z.length ≤ m) → 0 ≤ r → r < n → ∃ (j : Nat) (line : Str), atI (rows.map D.str) r = some (.str line) ∧ ixN (rows.map D.str).length r = some j ∧ Row line ∧ line.length ≤ m ∧
      ∀ z, Row z → z.length ≤ 2 * line.length + 40 → (rows.map D.str).set j (.str z) = (rows.set j z).map D.str ∧ (rows.set j z).length = n ∧ ∀ y ∈ rows.set j z, Row y ∧ y.length ≤ 2 * m + 40 := by
    intro rows m r hl hk h0 h1
    obtain ⟨j, rfl⟩ : ∃ j : Nat, r = j := ⟨r.toNat, by omega⟩
    have hj : j < rows.length := by omega
    refine ⟨j, rows[j], by rw [atI_nat (by rw [List.length_map]; exact hj), List.getElem_map], ixN_nat (by rw [List.length_map]; exact hj), (hk _ (List.getElem_mem hj)).1, (hk _ (List.getElem_mem hj)).2, fun z hz hzl => ⟨by rw [List.map_set], by rw [List.length_set]; exact hl, fun y hy => ?_⟩⟩
    have hb := (hk _ (List.getElem_mem hj)).2
    rcases List.mem_or_eq_of_mem_set hy with h | h
    · have := hk y h
      exact ⟨this.1, by omega⟩
    · rw [h]; exact ⟨hz, by omega⟩
  have nb : ((n : Nat) : Int) < 2 ^ 200 := Int.lt_of_le_of_lt (show ((n : Nat) : Int) ≤ 40 by omega) (by decide)
  refine ⟨⟨by decide, by decide⟩, npl rfl, fun i ρ => ∃ (d' : D) (c2 c6 c7 c8 : Cell), isDice d' ∧ ρ = [.ow d', .fz (.int (n : Nat)), c2, .fz (.lst (es.map Deed.data)), .fz (.lst ((es.map Deed.line).map D.str)), .fz (.str (hText es)), c6, c7, c8, .un], ?_, ?_, ?_⟩
  · exact ⟨d2, _, _, _, _, hd2, rfl⟩
  · rintro i x ρ' hx ⟨d3, c2, c6, c7, c8, hd3, rfl⟩
    obtain ⟨_, rfl⟩ := idx_rng hx
    refine ⟨nd1, d3, _, rfl, hd3, by omega, nb, fun d4 r hd4 r0 r1 => ⟨np rfl, np rfl, ltOk, ?_⟩⟩
    obtain ⟨j, line, ha1, ha2, hrow, hll, hset⟩ := bent _ 200 r (by rw [List.length_map, hen]) hlr r0 r1
    refine ⟨_, ha1, nd1, d4, line, rfl, hd4, hrow, by omega, fun d5 z hd5 hz hzl => ⟨j, ha2, ?_⟩⟩
    obtain ⟨es1, es2, es3⟩ := hset z hz hzl
    rw [es1]
    generalize (es.map Deed.line).set j z = rows1 at es2 es3 ⊢
    refine ⟨fun ρ => ∃ (d6 : D) (c2 c7 c8 : Cell) (rows : List Str), isDice d6 ∧ rows.length = n ∧ (∀ r ∈ rows, Row r ∧ r.length ≤ 1000) ∧ ρ = [.ow d6, .fz (.int (n : Nat)), c2, .fz (.lst (es.map Deed.data)), .fz (.lst ((es.map Deed.line).map D.str)), .fz (.str (hText es)), .ow (.lst (rows.map D.str)), c7, c8, .un], ?_, ?_⟩
    · refine ⟨nd1, d5, 2, rfl, hd5, by decide, by decide, fun d6 t hd6 t0 t1 => ?_⟩
      refine ite2 (fun _ => ?_) (fun _ => ⟨d6, _, _, _, rows1, hd6, es2, fun r hr => ⟨(es3 r hr).1, by have := (es3 r hr).2; omega⟩, rfl⟩)
      refine ⟨nd1, d6, _, rfl, hd6, by omega, nb, fun d7 u hd7 u0 u1 => ⟨np1 rfl, ?_⟩⟩
      obtain ⟨j2, line2, hb1, hb2, hrow2, hll2, hset2⟩ := bent rows1 440 u es2 es3 u0 u1
      refine ⟨_, hb1, nd1, d7, line2, rfl, hd7, hrow2, by omega, fun d8 z2 hd8 hz2 hzl2 => ⟨j2, hb2, ?_⟩⟩
      obtain ⟨fs1, fs2, fs3⟩ := hset2 z2 hz2 hzl2
      rw [fs1]
      exact ⟨d8, _, _, _, rows1.set j2 z2, hd8, fs2, fun r hr => ⟨(fs3 r hr).1, by have := (fs3 r hr).2; omega⟩, rfl⟩
    · rintro ρ ⟨d6, c2', c7', c8', rows, hd6, hrl, hrows2, rfl⟩
      have hls := lens_le fun r hr => (hrows2 r hr).2
      rw [hrl] at hls
      have hjl : (rows.map (·.length)).sum + rows.length * (Str.ofString "\n").length ≤ 16777216 := by rw [nl1]; omega
      refine ⟨np rfl, rfl, join_m hjl ?_⟩
      refine ite2 (fun hne1 => ?_) (fun _ => ⟨d6, _, _, _, _, hd6, rfl⟩)
      have hne2 : Txt.join (Str.ofString "\n") rows ≠ Str.ofString "" := fun e => by rw [e] at hne1; simp at hne1
      have hrb := rows_back (fun r hr => (hrows2 r hr).1) hne2
      have htl2 : (Txt.join (Str.ofString "\n") rows).length ≤ 800000 := by
        have := join_len (Str.ofString "\n") rows
        rw [nl1] at this
        omega
      have hds := due_shows (rows := rows) (n := 1000) (fun r hr => ⟨(hrows2 r hr).1.ok, (hrows2 r hr).2⟩) (by omega) (by omega)
      refine ⟨rfl, join_m hjl ⟨nd0, _, rfl, htl2, ?_⟩⟩
      rw [hrb]
      refine repr_m hds fun p hp => ⟨nd0, rows, rfl, by omega, fun r hr => ⟨by have := (hrows2 r hr).2; omega, (hrows2 r hr).1.ok⟩, repr_m hds fun p2 hp2 => ?_⟩
      obtain rfl : p = p2 := Option.some.inj (hp.symm.trans hp2)
      exact ite2 (fun h => absurd h (by simp)) (fun _ => ⟨d6, _, _, _, _, hd6, rfl⟩)
  · rintro ρ' ⟨d3, c2, c6, c7, c8, hd3, rfl⟩
    exact ⟨rfl, k d3 hd3⟩
section
variable {G : Gx} {P : Program} {wd : World} {mg : Str → Option Value} {base : Heap}
theorem ok__law_right (T : Tx G wd mg) : PFn G P wd mg base CX0 8 "_law_right" 1 false sp__law_right := by
  have G__law_one_of := (ok__law_one_of (P := P) (wd := wd) (base := base) T).g
  have G__law_deed := (ok__law_deed (P := P) (wd := wd) (base := base) T).g
  have G__law_line := (ok__law_line (P := P) (wd := wd) (base := base) T).g
  have G__law_bent := (ok__law_bent (P := P) (wd := wd) (base := base) T).g
  have G_write_history := (ok_write_history (P := P) (wd := wd) (base := base) T).g
  have G__law_roll := (ok__law_roll (P := P) (wd := wd) (base := base) T).g
  have G_read_history := (ok_read_history (P := P) (wd := wd) (base := base) T).g
  have G__law_told := (ok__law_told (P := P) (wd := wd) (base := base) T).g
  have G__law_due := (ok__law_due (P := P) (wd := wd) (base := base) T).g
  refine ⟨⟨T.a__law_right, T.d__law_right, ps__law_right, fnP T.F__law_right sc__law_right (by decide) (w := w__law_right G) (fun cdv A outer s H E hga hr => ?_) (pure__law_right G), T.m__law_right, T.F__law_right.kp, T.b__law_right⟩, len__law_right⟩
  exact (py_cons (py_set 1 sc__law_right.nd rfl (Or.inl rfl) (px_callP G__law_one_of hga (hr.mono (by decide)) rfl (pxa_cons (px_name 0) (pxa_cons (px_lst (pxa_cons px_int (pxa_cons px_int (pxa_cons px_int (pxa_cons px_int (pxa_cons px_int pxa_nil)))))) pxa_nil))))
  (py_cons (py_setLc 3 (own := [("turn", 2)]) (by decide) rfl sc__law_right.nd rfl rfl (sw_true rfl rfl rfl (by decide +kernel)) (pxi_range1 rfl T.n_range (pxa_cons (px_name 1) pxa_nil)) (blkOk_by (N := nm__law_right) (sc := defScope s__law_right) (by decide +kernel)) (fun _ _ _ _ _ => (pxg_name 2 sc__law_right.nd rfl (Or.inl rfl))) (fun _ _ _ _ _ => pxts_nil) (fun _ _ _ _ _ => (px_callP G__law_deed hga (hr.mono (by decide)) rfl (pxa_cons (px_name 0) pxa_nil))))
  (py_cons (py_setLc 4 (own := [("deed", 9)]) (by decide) rfl sc__law_right.nd rfl rfl (sw_true rfl rfl rfl (by decide +kernel)) (pxi_any (px_name 3)) (blkOk_by (N := nm__law_right) (sc := defScope s__law_right) (by decide +kernel)) (fun _ _ _ _ _ => (pxg_name 9 sc__law_right.nd rfl (Or.inl rfl))) (fun _ _ _ _ _ => pxts_nil) (fun _ _ _ _ _ => (px_callP G__law_line hga (hr.mono (by decide)) rfl (pxa_cons (px_name 9) pxa_nil))))
  (py_cons (py_set 5 sc__law_right.nd rfl (Or.inl rfl) (px_meth PySem.F.plainAttrs_str PySem.F.slot_str_join PySem.F.type_str_join (fun M H v d => tyD_str) joinK join_s px_str (pxa_cons (px_name 4) pxa_nil)))
  (py_cons (py_if (pxw (pxw_or (pxt_cmp (ne_ok hr.units) ne_s (px_callX G_write_history takes0 hga (hr.mono (by decide)) rfl (pxa_cons (px_callT tuple_ofK toTup_s rfl T.n_tuple (by decide +kernel) (pxa_cons (px_name 3) pxa_nil)) pxa_nil)) (px_name 5) (nomark _)) (pxw_or1 (pxt_cmp (ne_ok hr.units) ne_s (px_callB (reprAK hr.units hga) repr_s rfl T.n_repr (by decide +kernel) (pxa_cons (px_callX G_read_history takes0 hga (hr.mono (by decide)) rfl (pxa_cons (px_name 5) pxa_nil)) pxa_nil)) (px_callB (reprAK hr.units hga) repr_s rfl T.n_repr (by decide +kernel) (pxa_cons (px_callT tuple_ofK toTup_s rfl T.n_tuple (by decide +kernel) (pxa_cons (px_name 3) pxa_nil)) pxa_nil)) (nomark _)))))
  (py_one (py_ret px_bl))
  py_nil)
  (py_cons (py_for (is := [2]) PassesOwn.never rfl (pxi_range1 rfl T.n_range (pxa_cons px_int pxa_nil)) (pxg_name 2 sc__law_right.nd rfl (Or.inl rfl))
  (py_cons (py_parN 6 7 rfl sc__law_right.nd rfl rfl (by decide) rfl rfl (pxn_callT (toLst_ok rfl) toLst_l rfl T.n_list (by decide +kernel) (pxa_cons (px_name 4) pxa_nil)) (px_callP G__law_roll hga (hr.mono (by decide)) rfl (pxa_cons (px_name 0) (pxa_cons (px_name 1) pxa_nil))))
  (py_cons (py_store 6 (pv 6) (px_callP G__law_bent hga (hr.mono (by decide)) rfl (pxa_cons (px_name 0) (pxa_cons (px_ix ix_ok ix_s (px_name 6) (px_name 7) (fun _ _ => rfl)) pxa_nil))) (px_name 7))
  (py_join (py_if (pxt_cmp (eq_ok hr.units) eq_s (px_callP G__law_roll hga (hr.mono (by decide)) rfl (pxa_cons (px_name 0) (pxa_cons px_int pxa_nil))) px_int (nomark _))
  (py_cons (py_set 8 sc__law_right.nd rfl (Or.inl rfl) (px_callP G__law_roll hga (hr.mono (by decide)) rfl (pxa_cons (px_name 0) (pxa_cons (px_name 1) pxa_nil))))
  (py_one (py_store 6 (pv 6) (px_callP G__law_bent hga (hr.mono (by decide)) rfl (pxa_cons (px_name 0) (pxa_cons (px_ix ix_ok ix_s (px_name 6) (px_name 8) (fun _ _ => rfl)) pxa_nil))) (px_name 8))))
  py_nil)
  (py_freeze 6 (py_one (py_if (pxw (pxw_and (pxt_cmp (ne_ok hr.units) ne_s (px_meth PySem.F.plainAttrs_str PySem.F.slot_str_join PySem.F.type_str_join (fun M H v d => tyD_str) joinK join_s px_str (pxa_cons (px_name 6) pxa_nil)) px_str (nomark _)) (pxw_and1 (pxt_cmp (ne_ok hr.units) ne_s (px_callB (reprAK hr.units hga) repr_s rfl T.n_repr (by decide +kernel) (pxa_cons (px_callP G__law_told hga (hr.mono (by decide)) rfl (pxa_cons (px_meth PySem.F.plainAttrs_str PySem.F.slot_str_join PySem.F.type_str_join (fun M H v d => tyD_str) joinK join_s px_str (pxa_cons (px_name 6) pxa_nil)) pxa_nil)) pxa_nil)) (px_callB (reprAK hr.units hga) repr_s rfl T.n_repr (by decide +kernel) (pxa_cons (px_callP G__law_due hga (hr.mono (by decide)) rfl (pxa_cons (px_name 6) pxa_nil)) pxa_nil)) (nomark _)))))
  (py_one (py_ret px_bl))
  py_nil)))))))
  (py_one (py_ret px_bl))))))))
end
end Pu
namespace Pu
open PySem PySem.Spec PyProof.Rows L2 Lk Evl StX

open My
def Bad (x : D) : Prop := deedD x = false ∧ big x ≤ 100
theorem bad_h1 {x : D} (h : Bad x) : histD (.tup [.tup [.str (Str.ofString "store"), .str (Str.ofString "a")], x]) = false ∧ big (.tup [.tup [.str (Str.ofString "store"), .str (Str.ofString "a")], x]) ≤ 1000000 := by
  refine ⟨?_, big_tuple (by simp) (bigs_le fun d hd => ?_)⟩
  · unfold histD
    dsimp only
    rw [List.all_cons, List.all_cons, h.1, Bool.false_and, Bool.and_false, Bool.and_false]
  · simp only [List.mem_cons, List.not_mem_nil, or_false] at hd
    rcases hd with rfl | rfl
    · exact Nat.le_trans (show _ ≤ 100 by decide +kernel) (by decide)
    · exact Nat.le_trans h.2 (by decide)
theorem bad_h2 {x : D} (h : Bad x) : histD (.tup [x, .tup [.str (Str.ofString "store"), .str (Str.ofString "a")]]) = false ∧ big (.tup [x, .tup [.str (Str.ofString "store"), .str (Str.ofString "a")]]) ≤ 1000000 := by
  refine ⟨?_, big_tuple (by simp) (bigs_le fun d hd => ?_)⟩
  · unfold histD
    dsimp only
    rw [List.all_cons, h.1, Bool.false_and, Bool.and_false]
  · simp only [List.mem_cons, List.not_mem_nil, or_false] at hd
    rcases hd with rfl | rfl
    · exact Nat.le_trans h.2 (by decide)
    · exact Nat.le_trans (show _ ≤ 100 by decide +kernel) (by decide)
abbrev sp__law_refused : PSp := sp__law_right
theorem len__law_refused : Len 1 sp__law_refused := len__law_right
def w__law_refused_11 (G : Gx) : WS := (wRet (wOp dEq (wName 4) (wOp dAdd (wOp dMul (wLst (wCons (wC (.str (Str.ofString "operation"))) wNil)) (wC (.int 3))) (wLst (wCons (wC (.str (Str.ofString "text"))) wNil)))))
def w__law_refused_10 (G : Gx) : WS := (wSeq (wDrop (wLm 4 mAppend (wLam2 G "InvalidOperation" (Str.ofString "operation") "InvalidText" (Str.ofString "text") (Str.ofString "fine") (wCallP sp_read_history (wCons (wName 6) wNil))))) (w__law_refused_11 G))
def w__law_refused_9 (G : Gx) : WS := (wSeq (wAsg [6] (wCallP sp__law_one_of (wCons (wName 0) (wCons (wLst (wCons (wC .non) (wCons (wC (.int 0)) (wCons (wC (.bl true)) (wCons (wTup wNil) (wCons (wLst (wCons (wC (.str (Str.ofString "store =a"))) wNil)) (wCons (wTup (wCons (wTup (wCons (wC (.str (Str.ofString "store"))) (wCons (wC (.str (Str.ofString "a"))) wNil))) wNil)) (wCons (wV nD0) wNil)))))))) wNil))) (wgName 6)) (w__law_refused_10 G))
def w__law_refused_8 (G : Gx) : WS := (wSeq (wDrop (wLm 4 mAppend (wLam2 G "InvalidOperation" (Str.ofString "operation") "InvalidText" (Str.ofString "text") (Str.ofString "fine") (wCallP sp_write_history (wCons (wName 7) wNil))))) (w__law_refused_9 G))
def w__law_refused_7 (G : Gx) : WS := (wSeq (wDrop (wLm 4 mAppend (wLam2 G "InvalidOperation" (Str.ofString "operation") "InvalidText" (Str.ofString "text") (Str.ofString "fine") (wCallP sp_write_history (wCons (wTup (wCons (wName 5) (wCons (wTup (wCons (wC (.str (Str.ofString "store"))) (wCons (wC (.str (Str.ofString "a"))) wNil))) wNil))) wNil))))) (w__law_refused_8 G))
def w__law_refused_6 (G : Gx) : WS := (wSeq (wSetN 4 (nLst (wCons (wLam2 G "InvalidOperation" (Str.ofString "operation") "InvalidText" (Str.ofString "text") (Str.ofString "fine") (wCallP sp_write_history (wCons (wTup (wCons (wTup (wCons (wC (.str (Str.ofString "store"))) (wCons (wC (.str (Str.ofString "a"))) wNil))) (wCons (wName 5) wNil))) wNil))) wNil))) (w__law_refused_7 G))
def w__law_refused_5 (G : Gx) : WS := (wSeq (wAsg [7] (wCallP sp__law_one_of (wCons (wName 0) (wCons (wLst (wCons (wC .non) (wCons (wC (.int 0)) (wCons (wC (.bl true)) (wCons (wC (.str (Str.ofString ""))) (wCons (wC (.str (Str.ofString "store =a"))) (wCons (wLst wNil) (wCons (wLst (wCons (wTup (wCons (wC (.str (Str.ofString "store"))) (wCons (wC (.str (Str.ofString "a"))) wNil))) wNil)) (wCons (wV nD0) (wCons (wOp dMul (wTup (wCons (wTup (wCons (wC (.str (Str.ofString "store"))) (wCons (wC (.str (Str.ofString "a"))) wNil))) wNil)) (wC (.int 41))) wNil)))))))))) wNil))) (wgName 7)) (w__law_refused_6 G))
def w__law_refused_4 (G : Gx) : WS := (wSeq (wAsg [5] (wCallP sp__law_one_of (wCons (wName 0) (wCons (wOp dAdd (wName 2) (wLst (wCons (wTup (wCons (wC (.str (Str.ofString "use"))) (wCons (wC (.str (Str.ofString "abcdefghi"))) wNil))) (wCons (wTup (wCons (wC (.str (Str.ofString "take"))) (wCons (wC (.str (Str.ofString "a"))) (wCons (wTup (wCons (wC .non) wNil)) wNil)))) (wCons (wTup (wCons (wLst (wCons (wC (.str (Str.ofString "put"))) wNil)) (wCons (wC (.str (Str.ofString "a"))) (wCons (wC (.str (Str.ofString "a"))) wNil)))) (wCons (wTup (wCons (wC (.str (Str.ofString "use"))) (wCons (wC (.int 1)) wNil))) wNil)))))) wNil))) (wgName 5)) (w__law_refused_5 G))
def w__law_refused_3 (G : Gx) : WS := (wSeq (wAsg [2] (wLst (wCons (wName 1) (wCons (wName 3) (wCons (wTup (wCons (wC (.str (Str.ofString "move"))) (wCons (wC (.str (Str.ofString "a"))) (wCons (wOp dMul (wC (.str (Str.ofString "a"))) (wC (.int 13))) wNil)))) (wCons (wLst (wCons (wC (.str (Str.ofString "store"))) (wCons (wC (.str (Str.ofString "a"))) wNil))) (wCons (wC .non) (wCons (wC (.str (Str.ofString "store"))) (wCons (wTup (wCons (wC (.str (Str.ofString "put"))) (wCons (wC (.str (Str.ofString "a"))) (wCons (wC (.str (Str.ofString "A"))) wNil)))) (wCons (wTup (wCons (wC (.int 1)) (wCons (wC (.str (Str.ofString "a"))) wNil))) (wCons (wTup wNil) wNil)))))))))) (wgName 2)) (w__law_refused_4 G))
def w__law_refused_2 (G : Gx) : WS := (wSeq (wAsg [3] (wCallP sp__law_one_of (wCons (wName 0) (wCons (wName 2) wNil))) (wgName 3)) (w__law_refused_3 G))
def w__law_refused_1 (G : Gx) : WS := (wSeq (wAsg [2] (wLst (wCons (wTup (wCons (wC (.str (Str.ofString "take"))) (wCons (wC (.str (Str.ofString "a"))) wNil))) (wCons (wTup (wCons (wC (.str (Str.ofString "take"))) (wCons (wC (.str (Str.ofString "a"))) (wCons (wC (.str (Str.ofString "b"))) wNil)))) (wCons (wTup (wCons (wC (.str (Str.ofString "take"))) (wCons (wC (.str (Str.ofString "a"))) (wCons (wLst (wCons (wC (.str (Str.ofString "b"))) wNil)) wNil)))) (wCons (wTup (wCons (wC (.str (Str.ofString "store"))) (wCons (wC (.str (Str.ofString "a"))) (wCons (wC (.str (Str.ofString "a"))) wNil)))) (wCons (wTup (wCons (wC (.str (Str.ofString "fly"))) (wCons (wC (.str (Str.ofString "a"))) wNil))) wNil)))))) (wgName 2)) (w__law_refused_2 G))
/-- reading of _law_refused: slots 0:dice 1:deed 2:some 3:more 4:told 5:odd 6:other 7:value, owned dice told -/
def w__law_refused (G : Gx) : WS := (wSeq (wAsg [1] (wCallP sp__law_one_of (wCons (wName 0) (wCons (wLst (wCons (wTup (wCons (wC (.str (Str.ofString "use"))) wNil)) (wCons (wTup (wCons (wC (.str (Str.ofString "use"))) (wCons (wC (.str (Str.ofString "A"))) wNil))) (wCons (wTup (wCons (wC (.str (Str.ofString "use"))) (wCons (wC (.str (Str.ofString ""))) wNil))) (wCons (wTup (wCons (wC (.str (Str.ofString "put"))) (wCons (wC (.str (Str.ofString "a"))) wNil))) (wCons (wTup (wCons (wC (.str (Str.ofString "put"))) (wCons (wC (.str (Str.ofString ""))) (wCons (wC (.str (Str.ofString "a"))) wNil)))) (wCons (wTup (wCons (wC (.str (Str.ofString "put"))) (wCons (wC (.str (Str.ofString "a"))) (wCons (wC .non) wNil)))) wNil))))))) wNil))) (wgName 1)) (w__law_refused_1 G))
theorem pure__law_refused {G : Gx} (T1 : G.sub "InvalidOperation" "InvalidOperation" = some true) (T2 : G.sub "InvalidText" "InvalidOperation" = some false) (T3 : G.sub "InvalidText" "InvalidText" = some true) : Pure false 1 8 sp__law_refused (w__law_refused G) := by
  intro cells q eq hl hp
  obtain ⟨d, rfl, hd, k⟩ := hp
  have lt : ∀ {n : Nat}, Nat.ble (n + 1) sizeLine = true → n < sizeLine := fun h => Nat.le_of_ble_eq_true h
  -- the calls
  have calls : ∀ (d4 : D) (x1 c2 x2 x3 v : D), isDice d4 → Bad x3 → histD v = false → big v ≤ 1000000 → w__law_refused_6 G (endsP false [.ow d] q fun _ _ _ _ => False) [.ow d4, .fz x1, .fz c2, .fz x2, .un, .fz x3, .un, .fz v] := by
    intro d4 x1 c2 x2 x3 v hd4 h3 hv hvb
    obtain ⟨a1, a2⟩ := bad_h1 h3
    obtain ⟨b1, b2⟩ := bad_h2 h3
    refine ⟨lenOk, lenOk, nd0, _, rfl, a2, (fun h => by rw [a1] at h; cases h), fun _ => ⟨true, T1, fun _ => ⟨lenOk, np rfl, ltOk, ?_⟩, fun h => nomatch h⟩⟩
    refine ⟨lenOk, lenOk, nd0, _, rfl, b2, (fun h => by rw [b1] at h; cases h), fun _ => ⟨true, T1, fun _ => ⟨lt rfl, ?_⟩, fun h => nomatch h⟩⟩
    refine ⟨nd0, _, rfl, hvb, (fun h => by rw [hv] at h; cases h), fun _ => ⟨true, T1, fun _ => ⟨lt rfl, ?_⟩, fun h => nomatch h⟩⟩
    refine ⟨lenOk, lenOk, lenOk, lenOk, lenOk, nd1, d4, _, _, _, rfl, hd4, .inl rfl, rfl, fun h => (nomatch h), lenOk, fun d5 o hd5 ho => ⟨np1 rfl, ?_⟩⟩
    have h5 : isStrD o = false ∧ big o ≤ 800000 := by
      simp only [List.mem_cons, List.not_mem_nil, or_false] at ho
      rcases ho with rfl | rfl | rfl | rfl | rfl | rfl | rfl <;> exact ⟨by decide +kernel, Nat.le_trans (show _ ≤ 100 by decide +kernel) (by decide)⟩
    refine ⟨nd0, o, rfl, h5.2, fun _ => ⟨false, T2, fun h => (nomatch h), fun _ => ⟨true, T3, rfl, lt rfl, ?_⟩⟩, fun t et => by rw [et] at h5; cases h5.1⟩
    refine ⟨lenOk, by decide, by decide, by decide, lenOk, Nat.le_of_ble_eq_true rfl, eqD_of rfl rfl (by decide +kernel) (by decide +kernel) ⟨rfl, ?_⟩⟩
    rw [show PyData.eqv _ _ = true by decide +kernel]
    exact k d5 hd5
  refine ⟨lenOk, lenOk, lenOk, lenOk, lenOk, lenOk, lenOk, nd1, d, _, _, _, rfl, hd, .inl rfl, rfl, fun h => (nomatch h), lenOk, fun d1 x1 hd1 hx1 => ⟨np1 rfl, ?_⟩⟩
  have h1 : Bad x1 := by
    simp only [List.mem_cons, List.not_mem_nil, or_false] at hx1
    rcases hx1 with rfl | rfl | rfl | rfl | rfl | rfl <;> exact ⟨by decide +kernel, by decide +kernel⟩
  clear hx1
  refine ⟨lenOk, lenOk, lenOk, lenOk, lenOk, lenOk, lenOk, np1 rfl, nd1, d1, _, _, _, rfl, hd1, .inl rfl, rfl, fun h => (nomatch h), lenOk, fun d2 x2 hd2 hx2 => ⟨np1 rfl, ?_⟩⟩
  have h2 : Bad x2 := by
    simp only [List.mem_cons, List.not_mem_nil, or_false] at hx2
    rcases hx2 with rfl | rfl | rfl | rfl | rfl <;> exact ⟨by decide +kernel, by decide +kernel⟩
  clear hx2
  have rest : ∀ c2 : D, w__law_refused_3 G (endsP false [.ow d] q fun _ _ _ _ => False) [.ow d2, .fz x1, .fz c2, .fz x2, .un, .un, .un, .un] := by
    intro c2
    refine ⟨13, rfl, by decide +kernel, by decide, lenOk, lenOk, lenOk, lenOk, lenOk, lenOk, np1 rfl, ?_⟩
    refine ⟨lenOk, lenOk, lenOk, lenOk, lenOk, lenOk, lenOk, Nat.le_of_ble_eq_true rfl, nd1, d2, _, _, _, rfl, hd2, .inl rfl, rfl, fun h => (nomatch h), lenOk, fun d3 x3 hd3 hx3 => ⟨np1 rfl, ?_⟩⟩
    have h3 : Bad x3 := by
      simp only [List.cons_append, List.nil_append, List.mem_cons, List.not_mem_nil, or_false] at hx3
      rcases hx3 with rfl | rfl | rfl | rfl | rfl | rfl | rfl | rfl | rfl | rfl | rfl | rfl | rfl
      · exact h1
      · exact h2
      all_goals exact ⟨by decide +kernel, by decide +kernel⟩
    clear hx3
    refine ⟨lenOk, lenOk, lenOk, lenOk, lenOk, by simp, by decide, by decide, by decide, lenOk, nd1, d3, _, _, _, rfl, hd3, .inl rfl, rfl, fun h => (nomatch h), lenOk, fun d4 v hd4 hv => ⟨np1 rfl, ?_⟩⟩
    have h4 : histD v = false ∧ big v ≤ 1000000 := by
      simp only [List.mem_cons, List.not_mem_nil, or_false] at hv
      rcases hv with rfl | rfl | rfl | rfl | rfl | rfl | rfl | rfl | rfl <;> exact ⟨by decide +kernel, Nat.le_trans (show _ ≤ 100 by decide +kernel) (by decide)⟩
    exact calls d4 x1 _ x2 x3 v hd4 h3 h4.1 h4.2
  exact rest _
section
variable {G : Gx} {P : Program} {wd : World} {mg : Str → Option Value} {base : Heap}
theorem ok__law_refused (T : Tx G wd mg) (TB__law_refused : LamX.TabB base mg T.c__law_refused T.P__law_refused) : PFn G P wd mg base CX0 9 "_law_refused" 1 false sp__law_refused := by
  have G__law_one_of := (ok__law_one_of (P := P) (wd := wd) (base := base) T).g
  have G_write_history := ok_write_history (P := P) (wd := wd) (base := base) T
  have G_read_history := ok_read_history (P := P) (wd := wd) (base := base) T
  refine ⟨⟨T.a__law_refused, T.d__law_refused, ps__law_refused, fnPc T.F__law_refused T.hc__law_refused sc__law_refused (by decide) (w := w__law_refused G) (fun A outer s H E hga hr => ?_) (pure__law_refused T.e_InvalidOperation_InvalidOperation T.e_InvalidText_InvalidOperation T.e_InvalidText_InvalidText), T.m__law_refused, T.F__law_refused.kp, T.b__law_refused⟩, len__law_refused⟩
  exact (py_cons (py_set 1 sc__law_refused.nd rfl (Or.inl rfl) (px_callP G__law_one_of hga (hr.mono (by decide)) rfl (pxa_cons (px_name 0) (pxa_cons (px_lst (pxa_cons (px_tup (pxa_cons px_str pxa_nil)) (pxa_cons (px_tup (pxa_cons px_str (pxa_cons px_str pxa_nil))) (pxa_cons (px_tup (pxa_cons px_str (pxa_cons px_str pxa_nil))) (pxa_cons (px_tup (pxa_cons px_str (pxa_cons px_str pxa_nil))) (pxa_cons (px_tup (pxa_cons px_str (pxa_cons px_str (pxa_cons px_str pxa_nil)))) (pxa_cons (px_tup (pxa_cons px_str (pxa_cons px_str (pxa_cons px_non pxa_nil)))) pxa_nil))))))) pxa_nil))))
  (py_cons (py_set 2 sc__law_refused.nd rfl (Or.inl rfl) (px_lst (pxa_cons (px_tup (pxa_cons px_str (pxa_cons px_str pxa_nil))) (pxa_cons (px_tup (pxa_cons px_str (pxa_cons px_str (pxa_cons px_str pxa_nil)))) (pxa_cons (px_tup (pxa_cons px_str (pxa_cons px_str (pxa_cons (px_lst (pxa_cons px_str pxa_nil)) pxa_nil)))) (pxa_cons (px_tup (pxa_cons px_str (pxa_cons px_str (pxa_cons px_str pxa_nil)))) (pxa_cons (px_tup (pxa_cons px_str (pxa_cons px_str pxa_nil))) pxa_nil)))))))
  (py_cons (py_set 3 sc__law_refused.nd rfl (Or.inl rfl) (px_callP G__law_one_of hga (hr.mono (by decide)) rfl (pxa_cons (px_name 0) (pxa_cons (px_name 2) pxa_nil))))
  (py_cons (py_set 2 sc__law_refused.nd rfl (Or.inl rfl) (px_lst (pxa_cons (px_name 1) (pxa_cons (px_name 3) (pxa_cons (px_tup (pxa_cons px_str (pxa_cons px_str (pxa_cons (px_op mul_ok mul_s px_str px_int) pxa_nil)))) (pxa_cons (px_lst (pxa_cons px_str (pxa_cons px_str pxa_nil))) (pxa_cons px_non (pxa_cons px_str (pxa_cons (px_tup (pxa_cons px_str (pxa_cons px_str (pxa_cons px_str pxa_nil)))) (pxa_cons (px_tup (pxa_cons px_int (pxa_cons px_str pxa_nil))) (pxa_cons (px_tup pxa_nil) pxa_nil)))))))))))
  (py_cons (py_set 5 sc__law_refused.nd rfl (Or.inr rfl) (px_callP G__law_one_of hga (hr.mono (by decide)) rfl (pxa_cons (px_name 0) (pxa_cons (px_op add_ok add_s (px_name 2) (px_lst (pxa_cons (px_tup (pxa_cons px_str (pxa_cons px_str pxa_nil))) (pxa_cons (px_tup (pxa_cons px_str (pxa_cons px_str (pxa_cons (px_tup (pxa_cons px_non pxa_nil)) pxa_nil)))) (pxa_cons (px_tup (pxa_cons (px_lst (pxa_cons px_str pxa_nil)) (pxa_cons px_str (pxa_cons px_str pxa_nil)))) (pxa_cons (px_tup (pxa_cons px_str (pxa_cons px_int pxa_nil))) pxa_nil)))))) pxa_nil))))
  (py_cons (py_set 7 sc__law_refused.nd rfl (Or.inr rfl) (px_callP G__law_one_of hga (hr.mono (by decide)) rfl (pxa_cons (px_name 0) (pxa_cons (px_lst (pxa_cons px_non (pxa_cons px_int (pxa_cons px_bl (pxa_cons px_str (pxa_cons px_str (pxa_cons (px_lst pxa_nil) (pxa_cons (px_lst (pxa_cons (px_tup (pxa_cons px_str (pxa_cons px_str pxa_nil))) pxa_nil)) (pxa_cons (pxn pxn_d0) (pxa_cons (px_op mul_ok mul_s (px_tup (pxa_cons (px_tup (pxa_cons px_str (pxa_cons px_str pxa_nil))) pxa_nil)) px_int) pxa_nil)))))))))) pxa_nil))))
  (py_cons (py_setN 4 sc__law_refused.nd rfl (Or.inl rfl) (pxn_lst (pxa_cons (px_lam2 (C1 := "InvalidOperation") (r1 := (Str.ofString "operation")) (C2 := "InvalidText") (r2 := (Str.ofString "text")) (r3 := (Str.ofString "fine")) (q0 := ((Str.ofString "_law_refused") ++ (Str.ofString ".<locals>."))) (k := 6) T.F__law_word_of rfl T.m__law_word_of T.b__law_word_of sc__law_word_of rfl (Or.inl rfl) rfl rfl rfl T.m_InvalidOperation rfl T.m_InvalidText (by decide) (by decide) (fun _ => rfl) TB__law_refused rfl T.tm__law_refused T.tu__law_refused (hr.mono (by decide)) (LamX.lamS_by (sc := defScope s__law_refused) (by decide +kernel)) rfl (fun _ _ _ _ _ => rfl) (fun A' outer' s' H' E' f' c' hr' => (px_callXk G_write_history (takes_of rfl rfl rfl rfl) (hr'.mono (by decide)) rfl (pxa_cons (px_tup (pxa_cons (px_tup (pxa_cons px_str (pxa_cons px_str pxa_nil))) (pxa_cons (px_name 5) pxa_nil))) pxa_nil)))) pxa_nil)))
  (py_cons (py_expr (px_lm 4 PySem.F.slot_list_append PySem.F.type_list_append mt_append append_m (pv 4) (px_lam2 (C1 := "InvalidOperation") (r1 := (Str.ofString "operation")) (C2 := "InvalidText") (r2 := (Str.ofString "text")) (r3 := (Str.ofString "fine")) (q0 := ((Str.ofString "_law_refused") ++ (Str.ofString ".<locals>."))) (k := 6) T.F__law_word_of rfl T.m__law_word_of T.b__law_word_of sc__law_word_of rfl (Or.inl rfl) rfl rfl rfl T.m_InvalidOperation rfl T.m_InvalidText (by decide) (by decide) (fun _ => rfl) TB__law_refused rfl T.tm__law_refused T.tu__law_refused (hr.mono (by decide)) (LamX.lamS_by (sc := defScope s__law_refused) (by decide +kernel)) rfl (fun _ _ _ _ _ => rfl) (fun A' outer' s' H' E' f' c' hr' => (px_callXk G_write_history (takes_of rfl rfl rfl rfl) (hr'.mono (by decide)) rfl (pxa_cons (px_tup (pxa_cons (px_name 5) (pxa_cons (px_tup (pxa_cons px_str (pxa_cons px_str pxa_nil))) pxa_nil))) pxa_nil))))))
  (py_cons (py_expr (px_lm 4 PySem.F.slot_list_append PySem.F.type_list_append mt_append append_m (pv 4) (px_lam2 (C1 := "InvalidOperation") (r1 := (Str.ofString "operation")) (C2 := "InvalidText") (r2 := (Str.ofString "text")) (r3 := (Str.ofString "fine")) (q0 := ((Str.ofString "_law_refused") ++ (Str.ofString ".<locals>."))) (k := 6) T.F__law_word_of rfl T.m__law_word_of T.b__law_word_of sc__law_word_of rfl (Or.inl rfl) rfl rfl rfl T.m_InvalidOperation rfl T.m_InvalidText (by decide) (by decide) (fun _ => rfl) TB__law_refused rfl T.tm__law_refused T.tu__law_refused (hr.mono (by decide)) (LamX.lamS_by (sc := defScope s__law_refused) (by decide +kernel)) rfl (fun _ _ _ _ _ => rfl) (fun A' outer' s' H' E' f' c' hr' => (px_callXk G_write_history (takes_of rfl rfl rfl rfl) (hr'.mono (by decide)) rfl (pxa_cons (px_name 7) pxa_nil))))))
  (py_cons (py_set 6 sc__law_refused.nd rfl (Or.inr rfl) (px_callP G__law_one_of hga (hr.mono (by decide)) rfl (pxa_cons (px_name 0) (pxa_cons (px_lst (pxa_cons px_non (pxa_cons px_int (pxa_cons px_bl (pxa_cons (px_tup pxa_nil) (pxa_cons (px_lst (pxa_cons px_str pxa_nil)) (pxa_cons (px_tup (pxa_cons (px_tup (pxa_cons px_str (pxa_cons px_str pxa_nil))) pxa_nil)) (pxa_cons (pxn pxn_d0) pxa_nil)))))))) pxa_nil))))
  (py_cons (py_expr (px_lm 4 PySem.F.slot_list_append PySem.F.type_list_append mt_append append_m (pv 4) (px_lam2 (C1 := "InvalidOperation") (r1 := (Str.ofString "operation")) (C2 := "InvalidText") (r2 := (Str.ofString "text")) (r3 := (Str.ofString "fine")) (q0 := ((Str.ofString "_law_refused") ++ (Str.ofString ".<locals>."))) (k := 6) T.F__law_word_of rfl T.m__law_word_of T.b__law_word_of sc__law_word_of rfl (Or.inl rfl) rfl rfl rfl T.m_InvalidOperation rfl T.m_InvalidText (by decide) (by decide) (fun _ => rfl) TB__law_refused rfl T.tm__law_refused T.tu__law_refused (hr.mono (by decide)) (LamX.lamS_by (sc := defScope s__law_refused) (by decide +kernel)) rfl (fun _ _ _ _ _ => rfl) (fun A' outer' s' H' E' f' c' hr' => (px_callXk G_read_history (takes_of rfl rfl rfl rfl) (hr'.mono (by decide)) rfl (pxa_cons (px_name 6) pxa_nil))))))
  (py_one (py_ret (px_cmp (eq_ok hr.units) eq_s (px_name 4) (px_op add_ok add_s (px_op mul_ok mul_s (px_lst (pxa_cons px_str pxa_nil)) px_int) (px_lst (pxa_cons px_str pxa_nil))) (nomark _)))))))))))))))
end
end Pu
namespace Pu
open PySem PySem.Spec PyProof.Rows L2 Lk Evl StX

open My
def sp_law : PSp := fun cells q _ => ∃ ns : List Int, cells = [.fz (.sl (ns.map D.int))] ∧ ns.length ≤ 1000 ∧ ∀ cs, q (.bl true) cs
theorem len_law : Len 1 sp_law := fun cells q eq ⟨z, h, _⟩ => by rw [h]; rfl
def w_law_7 (G : Gx) : WS := (wRet (wAndV (wOp dEq (wCall (d1 dRepr) (wCons (wName 5) wNil)) (wCall (d1 dRepr) (wCons (wName 6) wNil))) (wOp dEq (wCall (d1 dLen) (wCons (wCallP sp_read_history (wCons (wMeth "str" (m1 dJoin) (wC (.str (Str.ofString "\n"))) (wCons (wCut (wName 4) wNo (wSome (wC (.int 40)))) wNil)) wNil)) wNil)) (wC (.int 40)))))
def w_law_6 (G : Gx) : WS := (wSeq (wAsg [6] (wLst (wCons (wTup wNil) (wCons (wC (.str (Str.ofString ""))) (wCons (wC (.int 41)) (wCons (wC (.int 40)) (wCons (wC (.int 0)) (wCons (wC (.int 1)) (wCons (wTup (wCons (wTup (wCons (wC (.str (Str.ofString "take"))) (wCons (wC (.str (Str.ofString "a"))) (wCons (wTup wNil) wNil)))) wNil)) (wCons (wTup (wCons (wTup (wCons (wC (.str (Str.ofString "take"))) (wCons (wC (.str (Str.ofString "a"))) (wCons (wTup (wCons (wC (.str (Str.ofString ""))) (wCons (wC (.str (Str.ofString "b"))) wNil))) wNil)))) wNil)) wNil))))))))) (wgName 6)) (w_law_7 G))
def w_law_5 (G : Gx) : WS := (wSeq (wAsg [5] (wOp dAdd (wName 5) (wLst (wCons (wCallP sp__law_told (wCons (wC (.str (Str.ofString "\n"))) wNil)) (wCons (wCallP sp__law_told (wCons (wC (.str (Str.ofString "store =a\n"))) wNil)) (wCons (wCallP sp__law_told (wCons (wC (.str (Str.ofString "take =a"))) wNil)) (wCons (wCallP sp__law_told (wCons (wC (.str (Str.ofString "take =a = =b"))) wNil)) wNil)))))) (wgName 5)) (w_law_6 G))
def w_law_4 (G : Gx) : WS := (wSeq (wAsg [5] (wLst (wCons (wCallP sp_read_history (wCons (wC (.str (Str.ofString ""))) wNil)) (wCons (wCallP sp_write_history (wCons (wTup wNil) wNil)) (wCons (wCallP sp__law_told (wCons (wMeth "str" (m1 dJoin) (wC (.str (Str.ofString "\n"))) (wCons (wName 4) wNil)) wNil)) (wCons (wCallP sp__law_told (wCons (wMeth "str" (m1 dJoin) (wC (.str (Str.ofString "\n"))) (wCons (wOp dAdd (wCut (wName 4) wNo (wSome (wC (.int 40)))) (wLst (wCons (wC (.str (Str.ofString "x"))) wNil))) wNil)) wNil)) wNil))))) (wgName 5)) (w_law_5 G))
def w_law_3 (G : Gx) : WS := (wSeq (wAsg [4] (wOp dMul (wLst (wCons (wC (.str (Str.ofString "store =a"))) wNil)) (wC (.int 41))) (wgName 4)) (w_law_4 G))
def w_law_2 (G : Gx) : WS := (wSeq (wIfS (wOrT (wB (wOp dNe (wCallP sp_read_history (wCons (wCallP sp_write_history (wCons (wName 3) wNil)) wNil)) (wName 3))) (wB (wOp dNe (wCall (d1 dLen) (wCons (wCallP sp_write_history (wCons (wName 3) wNil)) wNil)) (wC (.int 7532)))))
  (wRet (wC (.bl false)))
  wNext) (w_law_3 G))
def w_law_1 (G : Gx) : WS := (wSeq (wAsg [3] (wTup (wCons (wTup (wCons (wC (.str (Str.ofString "put"))) (wCons (wC (.str (Str.ofString "a"))) (wCons (wOp dMul (wC (.str (Str.ofString "_"))) (wC (.int 3000))) wNil)))) (wCons (wTup (wCons (wC (.str (Str.ofString "take"))) (wCons (wC (.str (Str.ofString "a"))) (wCons (wTup (wCons (wOp dMul (wC (.str (Str.ofString "b"))) (wC (.int 2500))) (wCons (wC (.str (Str.ofString ""))) (wCons (wOp dMul (wC (.str (Str.ofString "$"))) (wC (.int 2001))) wNil)))) wNil)))) (wCons (wTup (wCons (wC (.str (Str.ofString "store"))) (wCons (wC (.str (Str.ofString "a"))) wNil))) wNil)))) (wgName 3)) (w_law_2 G))
/-- reading of law: slots 0:script 1:at 2:dice 3:long 4:lines 5:told 6:due, owned dice -/
def w_law (G : Gx) : WS := (wSeq (wFor [1] (wRng1 (wCons (wCall (d2 dMax2) (wCons (wC (.int 1)) (wCons (wCall (d2 dMin2) (wCons (wC (.int 8)) (wCons (wCall (d1 dLen) (wCons (wName 0) wNil)) wNil))) wNil))) wNil)) (wgName 1)
  (wSeq (wSetN 2 (nCallP sp__law_dice (wCons (wName 0) (wCons (wName 1) wNil))))
  (wIfS (wOrT (wNotT (wTru (wCallP sp__law_right (wCons (wName 2) wNil)))) (wNotT (wTru (wCallP sp__law_refused (wCons (wName 2) wNil)))))
  (wRet (wC (.bl false)))
  wNext))) (w_law_1 G))
abbrev longs : List Deed := [.put (Str.ofString "a") (repS (Str.ofString "_") 3000), .take (Str.ofString "a") [repS (Str.ofString "b") 2500, Str.ofString "", repS (Str.ofString "$") 2001], .store (Str.ofString "a")]
theorem longs_ok : ∀ e ∈ longs, e.ok := by
  intro e he
  simp only [List.mem_cons, List.not_mem_nil, or_false] at he
  rcases he with rfl | rfl | rfl
  · exact ⟨by decide +kernel, by decide +kernel⟩
  · refine ⟨by decide +kernel, fun f hf => ?_⟩
    simp only [List.mem_cons, List.not_mem_nil, or_false] at hf
    rcases hf with rfl | rfl | rfl <;> decide +kernel
  · show pathS _ = true
    decide +kernel
abbrev ln : Str := Str.ofString "store =a"
theorem ln_row : Row ln := row_by (by decide +kernel)
theorem ln_read : readD ln = some (Deed.store (Str.ofString "a")).data := by
  have e : ln = Deed.line (.store (Str.ofString "a")) := by decide +kernel
  rw [e]
  exact read_line (show pathS _ = true by decide +kernel)
theorem told_of {text : Str} {rows : List Str} {d : D} (h1 : rowsOf text = rows) (h2 : dueOf rows = d) : dueOf (rowsOf text) = d := by rw [h1, h2]
theorem due_num {rows : List Str} {n : Nat} (h : badRow rows = some n) : dueOf rows = .int n := by unfold dueOf; rw [h]
theorem due_deeds {es : List Deed} (h : ∀ e ∈ es, e.ok) (hl : es.length ≤ 40) : dueOf (es.map Deed.line) = .tup (es.map Deed.data) := by
  obtain ⟨a, b, c⟩ := lines_due h hl
  unfold dueOf
  rw [a]
  simp only [b, c, if_true]
theorem due41 : dueOf (List.replicate 41 ln) = .int 41 := by
  have hb : badRow (List.replicate 41 ln) = none := by decide +kernel
  have hg : (goodRows (List.replicate 41 ln)).length = 41 := good_len hb
  have hh : histD (.tup (goodRows (List.replicate 41 ln))) = false := by
    show (decide ((goodRows (List.replicate 41 ln)).length ≤ 40) && _) = false
    rw [hg]; rfl
  unfold dueOf
  rw [hb]
  simp only [hh, Bool.false_eq_true, if_false, List.length_replicate]
  rfl
theorem t1 : rowsOf (Str.ofString "") = [] := by decide +kernel
theorem t2 : dueOf (rowsOf (Str.ofString "\n")) = .int 0 := due_num (by decide +kernel)
theorem t3 : dueOf (rowsOf (Str.ofString "store =a\n")) = .int 1 := due_num (by decide +kernel)
theorem t4 : dueOf (rowsOf (Str.ofString "take =a")) = .tup [.tup [.str (Str.ofString "take"), .str (Str.ofString "a"), .tup []]] :=
  told_of (rows := [Deed.line (.take (Str.ofString "a") [])]) (by decide +kernel) (due_deeds (es := [.take (Str.ofString "a") []]) (fun e he => by rw [List.mem_singleton.mp he]; exact ⟨by decide +kernel, fun _ h => nomatch h⟩) (by decide))
theorem t5 : dueOf (rowsOf (Str.ofString "take =a = =b")) = .tup [.tup [.str (Str.ofString "take"), .str (Str.ofString "a"), .tup [.str (Str.ofString ""), .str (Str.ofString "b")]]] :=
  told_of (rows := [Deed.line (.take (Str.ofString "a") [Str.ofString "", Str.ofString "b"])]) (by decide +kernel) (due_deeds (es := [.take (Str.ofString "a") [Str.ofString "", Str.ofString "b"]]) (fun e he => by rw [List.mem_singleton.mp he]; exact ⟨by decide +kernel, fun f hf => by simp at hf; rcases hf with rfl | rfl <;> decide +kernel⟩) (by decide))
theorem long_read : rowsOf (hText longs) = longs.map Deed.line := rows_back (fun r hr => by
  obtain ⟨e, he, rfl⟩ := List.mem_map.mp hr
  exact line_row (longs_ok e he)) (text_some longs_ok (by simp))
end Pu
namespace Pu
open PySem PySem.Spec PyProof.Rows L2 Lk Evl StX

open My
theorem rep_len (z : Str) (n : Nat) : (repS z n).length = n * z.length := by
  simp [repS, Str.length]
theorem join_len_eq (s : Str) : ∀ ys : List Str, ys ≠ [] → (Txt.join s ys).length + s.length = (ys.map (·.length)).sum + ys.length * s.length := by
  intro ys
  rw [TL.join_eq]
  induction ys with
  | nil => intro h; exact absurd rfl h
  | cons x ys ih =>
    intro _
    cases ys with
    | nil =>
      show x.length + s.length = _
      simp
    | cons y r =>
      have := ih (by simp)
      show (x ++ s ++ Str.join s (y :: r)).length + _ = _
      rw [len_app, len_app]
      simp only [List.map_cons, List.sum_cons, List.length_cons, Nat.add_mul, Nat.one_mul] at this ⊢
      omega
theorem put_len (p t : Str) : (Deed.put p t).line.length = p.length + t.length + 7 := by
  have l1 : (Str.ofString "put").length = 3 := by decide +kernel
  have ls : (Str.ofString " ").length = 1 := by decide +kernel
  have e1 := join_len_eq (Str.ofString " ") [Str.ofString "put", eqW p, eqW t] (by simp)
  simp only [List.map_cons, List.map_nil, List.sum_cons, List.sum_nil, List.length_cons, List.length_nil, len_eqW, l1, ls] at e1
  show (Txt.join (Str.ofString " ") [Str.ofString "put", eqW p, eqW t]).length = _
  omega
theorem store_len (p : Str) : (Deed.store p).line.length = p.length + 7 := by
  have l1 : (Str.ofString "store").length = 5 := by decide +kernel
  have ls : (Str.ofString " ").length = 1 := by decide +kernel
  have e1 := join_len_eq (Str.ofString " ") [Str.ofString "store", eqW p] (by simp)
  simp only [List.map_cons, List.map_nil, List.sum_cons, List.sum_nil, List.length_cons, List.length_nil, len_eqW, l1, ls] at e1
  show (Txt.join (Str.ofString " ") [Str.ofString "store", eqW p]).length = _
  omega
theorem take_len (p x y z : Str) : (Deed.take p [x, y, z]).line.length = p.length + x.length + y.length + z.length + 12 := by
  have l1 : (Str.ofString "take").length = 4 := by decide +kernel
  have ls : (Str.ofString " ").length = 1 := by decide +kernel
  have e1 := join_len_eq (Str.ofString " ") [Str.ofString "take", eqW p, eqW x, eqW y, eqW z] (by simp)
  simp only [List.map_cons, List.map_nil, List.sum_cons, List.sum_nil, List.length_cons, List.length_nil, len_eqW, l1, ls] at e1
  show (Txt.join (Str.ofString " ") [Str.ofString "take", eqW p, eqW x, eqW y, eqW z]).length = _
  omega
theorem three_len (x y z : Deed) : (hText [x, y, z]).length = x.line.length + y.line.length + z.line.length + 2 := by
  have nl : (Str.ofString "\n").length = 1 := by decide +kernel
  have e4 := join_len_eq (Str.ofString "\n") [x.line, y.line, z.line] (by simp)
  simp only [List.map_cons, List.map_nil, List.sum_cons, List.sum_nil, List.length_cons, List.length_nil, nl] at e4
  show (Txt.join (Str.ofString "\n") [x.line, y.line, z.line]).length = _
  omega
theorem long_len' {a b c d e : Str} (ha : a.length = 1) (hb : b.length = 3000) (hc : c.length = 2500) (hd : d.length = 0) (he : e.length = 2001) : (hText [.put a b, .take a [c, d, e], .store a]).length = 7532 := by
  rw [three_len, put_len, take_len, store_len, ha, hb, hc, hd, he]
theorem rep1 {z : Str} (h : z.length = 1) (n : Nat) : (repS z n).length = n := by rw [rep_len, h, Nat.mul_one]
theorem long_len : (hText longs).length = 7532 :=
  long_len' (by decide +kernel) (rep1 (by decide +kernel) 3000) (rep1 (by decide +kernel) 2500) (by decide +kernel) (rep1 (by decide +kernel) 2001)
theorem put_weight (p t : Str) : (Deed.put p t).weight = p.length + t.length + 8 := by
  have l1 : (Str.ofString "put").length = 3 := by decide +kernel
  show ([Str.ofString "put", eqW p, eqW t].map (·.length)).sum + 3 = _
  simp only [List.map_cons, List.map_nil, List.sum_cons, List.sum_nil, len_eqW, l1]
  omega
theorem store_weight (p : Str) : (Deed.store p).weight = p.length + 8 := by
  have l1 : (Str.ofString "store").length = 5 := by decide +kernel
  show ([Str.ofString "store", eqW p].map (·.length)).sum + 2 = _
  simp only [List.map_cons, List.map_nil, List.sum_cons, List.sum_nil, len_eqW, l1]
  omega
theorem take_weight (p x y z : Str) : (Deed.take p [x, y, z]).weight = p.length + x.length + y.length + z.length + 13 := by
  have l1 : (Str.ofString "take").length = 4 := by decide +kernel
  show ([Str.ofString "take", eqW p, eqW x, eqW y, eqW z].map (·.length)).sum + 5 = _
  simp only [List.map_cons, List.map_nil, List.sum_cons, List.sum_nil, len_eqW, l1]
  omega
theorem long_w {a b c d e : Str} (ha : a.length = 1) (hb : b.length = 3000) (hc : c.length = 2500) (hd : d.length = 0) (he : e.length = 2001) : ∀ x ∈ [Deed.put a b, .take a [c, d, e], .store a], x.weight ≤ 10000 := by
  intro x hx
  simp only [List.mem_cons, List.not_mem_nil, or_false] at hx
  rcases hx with rfl | rfl | rfl
  · rw [put_weight]; omega
  · rw [take_weight]; omega
  · rw [store_weight]; omega
theorem long_weight : ∀ x ∈ longs, x.weight ≤ 10000 := long_w (by decide +kernel) (rep1 (by decide +kernel) 3000) (rep1 (by decide +kernel) 2500) (by decide +kernel) (rep1 (by decide +kernel) 2001)
end Pu
namespace Pu
open PySem PySem.Spec PyProof.Rows L2 Lk Evl StX

open My
theorem rows40 : rowsOf (Txt.join (Str.ofString "\n") (List.replicate 40 ln)) = (List.replicate 40 (Deed.store (Str.ofString "a"))).map Deed.line := by decide +kernel
abbrev endD : D := .lst [.tup [], .str (Str.ofString ""), .int 41, .int 40, .int 0, .int 1, .tup [.tup [.str (Str.ofString "take"), .str (Str.ofString "a"), .tup []]], .tup [.tup [.str (Str.ofString "take"), .str (Str.ofString "a"), .tup [.str (Str.ofString ""), .str (Str.ofString "b")]]]]
theorem end_shows : ShowsD endD := ⟨_, rfl, by decide +kernel, by decide +kernel, by decide +kernel, by decide +kernel⟩
theorem law_6 {G : Gx} {s c1 c2 c3 : Cell} {E : PEnds} (hp : ∀ j, E.pins.contains j = false) (k : ∀ ρ, E.rt (.val (.bl true)) ρ) : w_law_6 G E [s, c1, c2, c3, .fz (.lst ((List.replicate 41 ln).map D.str)), .fz endD, .un] := by
  refine ⟨lenOk, lenOk, lenOk, lenOk, lenOk, lenOk, lenOk, lenOk, np1 (hp 6), ?_⟩
  refine repr_m end_shows fun p hp => repr_m end_shows fun p2 hp2 => ?_
  obtain rfl : p = p2 := Option.some.inj (hp.symm.trans hp2)
  have e1 : decide (p.shown = p.shown) = true := decide_eq_true rfl
  refine ifT ?_ e1
  refine ⟨rfl, join_m (xs := List.replicate 40 ln) (by decide +kernel) ⟨nd0, _, rfl, (by decide +kernel), fun h => (nomatch h), fun t et => ?_⟩⟩
  cases et
  rw [rows40]
  obtain ⟨hb, hg, hh⟩ := lines_due (es := List.replicate 40 (.store (Str.ofString "a"))) (fun e he => by rw [(List.mem_replicate.mp he).2]; exact (show pathS _ = true by decide +kernel)) (by decide)
  rw [hb, hg]
  refine ⟨fun n h => (nomatch h), fun _ h => (by rw [hh] at h; cases h), fun _ _ => ?_⟩
  exact k _
theorem law_5 {G : Gx} {s c1 c2 c3 : Cell} {E : PEnds} (hp : ∀ j, E.pins.contains j = false) (k : ∀ ρ, E.rt (.val (.bl true)) ρ) : w_law_5 G E [s, c1, c2, c3, .fz (.lst ((List.replicate 41 ln).map D.str)), .fz (.lst [.tup [], .str (Str.ofString ""), .int 41, .int 40]), .un] := by
  refine ⟨nd0, _, rfl, by decide +kernel, ?_⟩
  rw [t2]
  refine ⟨nd0, _, rfl, by decide +kernel, ?_⟩
  rw [t3]
  refine ⟨nd0, _, rfl, by decide +kernel, ?_⟩
  rw [t4]
  refine ⟨nd0, _, rfl, by decide +kernel, ?_⟩
  rw [t5]
  refine ⟨lenOk, Nat.le_of_ble_eq_true rfl, np1 (hp 5), ?_⟩
  exact law_6 hp k
end Pu
namespace Pu
open PySem PySem.Spec PyProof.Rows L2 Lk Evl StX

open My
theorem deeds_py : ∀ es : List Deed, D.pys (es.map Deed.data) = some (es.map Deed.pd)
  | [] => rfl
  | e :: es => by rw [List.map_cons, D.pys, e.py, deeds_py es]; rfl
theorem strs_ok {e : Deed} (h : e.ok) : ∀ z ∈ e.strs, okS z := by
  cases e with
  | use n => intro z hz; rw [List.mem_singleton.mp hz]; exact (name_row h).ok
  | store p => intro z hz; rw [List.mem_singleton.mp hz]; exact (txt_row (path_txt h)).ok
  | put p t =>
    intro z hz
    simp only [Deed.strs, List.mem_cons, List.not_mem_nil, or_false] at hz
    rcases hz with rfl | rfl
    · exact (txt_row (path_txt h.1)).ok
    · exact (txt_row h.2).ok
  | move p t =>
    intro z hz
    simp only [Deed.strs, List.mem_cons, List.not_mem_nil, or_false] at hz
    rcases hz with rfl | rfl
    · exact (txt_row (path_txt h.1)).ok
    · exact (txt_row (path_txt h.2)).ok
  | take p fs =>
    intro z hz
    rcases List.mem_cons.mp hz with rfl | hz
    · exact (txt_row (path_txt h.1)).ok
    · exact (txt_row (h.2 z hz)).ok
theorem deeds_lay {es : List Deed} (h : ∀ e ∈ es, e.ok) : PyData.canLay0 (.tuple (es.map Deed.pd)) = true ∧ PyData.depth (.tuple (es.map Deed.pd)) ≤ 4 := by
  obtain ⟨a, b⟩ := lays (ds := es.map Deed.pd) fun d hd => by
    obtain ⟨e, he, rfl⟩ := List.mem_map.mp hd
    exact deed_lay (strs_ok (h e he))
  refine ⟨by simp only [PyData.canLay0]; exact a, ?_⟩
  simp only [PyData.depth]
  omega
theorem deeds_shaped {es : List Deed} (h : ∀ e ∈ es, e.ok) : SeqAt.shaped (.tuple (es.map Deed.pd)) = true := by
  obtain ⟨a, b⟩ := deeds_lay h
  show (PyData.canLay0 _ && decide (PyData.depth _ ≤ 64)) = true
  rw [a, decide_eq_true (by omega)]; rfl
/-- the very deeds are equal -/
theorem deeds_eq {es : List Deed} {k : Bool → Prop} (h : ∀ e ∈ es, e.ok) (hk : k true) : EqD (.tup (es.map Deed.data)) (.tup (es.map Deed.data)) k := by
  have e : (D.tup (es.map Deed.data)).py = some (.tuple (es.map Deed.pd)) := by rw [D.py, deeds_py]; rfl
  refine eqD_of e e (deeds_shaped h) (deeds_shaped h) ?_
  rw [SeqAt.eqv_refl _ (deeds_lay h).1]
  exact hk
theorem law_2 {G : Gx} {es : List Deed} {s c1 c2 : Cell} {E : PEnds} (hok : ∀ e ∈ es, e.ok) (hl : es.length ≤ 40) (hw : ∀ e ∈ es, e.weight ≤ 10000) (hne : es ≠ []) (hlen : (hText es).length = 7532)
    (k : w_law_3 G E [s, c1, c2, .fz (.tup (es.map Deed.data)), .un, .un, .un]) : w_law_2 G E [s, c1, c2, .fz (.tup (es.map Deed.data)), .un, .un, .un] := by
  obtain ⟨hb, hg, hh⟩ := lines_due hok hl
  have hbig : big (.tup (es.map Deed.data)) ≤ 1000000 := Nat.le_trans (deeds_big hw (by omega)) (by decide)
  have hwt : weights es ≤ 1000000 := Nat.le_trans (weights_le hw) (Nat.le_trans (Nat.mul_le_mul_right 10000 hl) (by decide))
  have hread : rowsOf (hText es) = es.map Deed.line := rows_back (fun r hr => by
    obtain ⟨e, he, rfl⟩ := List.mem_map.mp hr
    exact line_row (hok e he)) (text_some hok hne)
  refine ⟨nd0, .tup (es.map Deed.data), rfl, hbig, fun _ es' he' _ _ => ?_, fun h => by rw [hh] at h; cases h⟩
  obtain rfl : es = es' := datas_inj (D.tup.inj he')
  refine ⟨hwt, nd0, .str (hText es), rfl, by show (hText es).length ≤ 800000; rw [hlen]; decide, fun h => (nomatch h), fun t et => ?_⟩
  cases et
  rw [hread, hb, hg]
  refine ⟨fun n h => (nomatch h), fun _ h => (by rw [hh] at h; cases h), fun _ _ => deeds_eq hok ?_⟩
  refine ⟨nd0, .tup (es.map Deed.data), rfl, hbig, fun _ es' he' _ _ => ?_, fun h => by rw [hh] at h; cases h⟩
  obtain rfl : es = es' := datas_inj (D.tup.inj he')
  refine ⟨hwt, tl_size (show (hText es).length ≤ 1000000 by rw [hlen]; decide), ?_⟩
  rw [hlen]
  exact k
theorem rows41 : rowsOf (Txt.join (Str.ofString "\n") (List.replicate 41 ln)) = List.replicate 41 ln := by decide +kernel
theorem rows40x : rowsOf (Txt.join (Str.ofString "\n") (List.replicate 40 ln ++ [Str.ofString "x"])) = List.replicate 40 ln ++ [Str.ofString "x"] := by decide +kernel
theorem due40x : dueOf (List.replicate 40 ln ++ [Str.ofString "x"]) = .int 40 := due_num (by decide +kernel)
theorem law_4 {G : Gx} {s c1 c2 c3 : Cell} {E : PEnds} (hp : ∀ j, E.pins.contains j = false) (k : ∀ ρ, E.rt (.val (.bl true)) ρ) : w_law_4 G E [s, c1, c2, c3, .fz (.lst ((List.replicate 41 ln).map D.str)), .un, .un] := by
  have j41 : ((List.replicate 41 ln).map (·.length)).sum + (List.replicate 41 ln).length * (Str.ofString "\n").length ≤ 16777216 := by decide +kernel
  have jx : ((List.replicate 40 ln ++ [Str.ofString "x"]).map (·.length)).sum + (List.replicate 40 ln ++ [Str.ofString "x"]).length * (Str.ofString "\n").length ≤ 16777216 := by decide +kernel
  refine ⟨nd0, .str (Str.ofString ""), rfl, by decide +kernel, fun h => (nomatch h), fun t et => ?_⟩
  cases et
  rw [t1]
  refine ⟨fun n h => (nomatch h), fun _ h => (nomatch h), fun _ _ => ⟨lenOk, nd0, .tup [], rfl, by decide, fun _ es he _ _ => ?_, fun h => (Bool.noConfusion (h : true = false))⟩⟩
  obtain rfl : [] = es := datas_inj (a := []) (D.tup.inj he)
  refine ⟨by decide, rfl, join_m j41 ⟨nd0, _, rfl, by decide +kernel, ?_⟩⟩
  rw [rows41, due41]
  have ecut : cutA (List.map D.str (List.replicate 41 ln)) none (some 40) = (List.replicate 40 ln).map D.str := rfl
  refine ⟨rfl, ⟨lenOk, ?_⟩⟩
  rw [ecut]
  refine ⟨Nat.le_of_ble_eq_true rfl, join_m (xs := List.replicate 40 ln ++ [Str.ofString "x"]) jx ⟨nd0, _, rfl, by decide +kernel, ?_⟩⟩
  rw [rows40x, due40x]
  exact ⟨lenOk, np1 (hp 5), law_5 hp k⟩
theorem law_3 {G : Gx} {s c1 c2 c3 : Cell} {E : PEnds} (hp : ∀ j, E.pins.contains j = false) (k : ∀ ρ, E.rt (.val (.bl true)) ρ) : w_law_3 G E [s, c1, c2, c3, .un, .un, .un] :=
  ⟨lenOk, by decide, by decide, by decide, np1 (hp 4), law_4 hp k⟩
theorem law_1 {G : Gx} {s c1 c2 : Cell} {E : PEnds} (hp : ∀ j, E.pins.contains j = false) (k : ∀ ρ, E.rt (.val (.bl true)) ρ) : w_law_1 G E [s, c1, c2, .un, .un, .un, .un] := by
  have u1 : (Str.ofString "_").length * 3000 ≤ 16777216 := by rw [show (Str.ofString "_").length = 1 by decide +kernel]; decide
  have u2 : (Str.ofString "b").length * 2500 ≤ 16777216 := by rw [show (Str.ofString "b").length = 1 by decide +kernel]; decide
  have u3 : (Str.ofString "$").length * 2001 ≤ 16777216 := by rw [show (Str.ofString "$").length = 1 by decide +kernel]; decide
  exact ⟨3000, rfl, u1, by decide, lenOk, 2500, rfl, u2, by decide, 2001, rfl, u3, by decide, lenOk, lenOk, lenOk, lenOk, np1 (hp 3), law_2 (es := longs) longs_ok (by decide) long_weight (by simp) long_len (law_3 hp k)⟩
theorem pure_law {G : Gx} : Pure false 1 7 sp_law (w_law G) := by
  intro cells q eq hl hp
  obtain ⟨ns, rfl, hn, k⟩ := hp
  refine ⟨⟨?_, ?_⟩, npl rfl, fun i ρ => ∃ c1 c2 : Cell, ρ = [.fz (.sl (ns.map D.int)), c1, c2, .un, .un, .un, .un], ⟨_, _, rfl⟩, ?_, ?_⟩
  · split <;> split <;> omega
  · rw [List.length_map]
    split <;> split <;> omega
  · rintro i x ρ' hx ⟨c1, c2, rfl⟩
    obtain ⟨_, rfl⟩ := idx_rng hx
    have e0 : (0 : Int) + (i : Nat) = (i : Nat) := Int.zero_add _
    refine ⟨nd0, ns, i, congrArg (fun t => [Cell.fz (.sl (ns.map D.int)), .fz (.int t)]) e0, fun d hd => ⟨np rfl, ltOk, ?_⟩⟩
    exact ⟨nd1, d, rfl, hd, fun d1 hd1 => ⟨nd1, d1, rfl, hd1, fun d2 hd2 => ⟨_, _, rfl⟩⟩⟩
  · rintro ρ' ⟨c1, c2, rfl⟩
    refine law_1 (fun _ => rfl) fun ρ => ?_
    exact ⟨rfl, k _⟩
section
variable {G : Gx} {P : Program} {wd : World} {mg : Str → Option Value} {base : Heap}
theorem ok_law (T : Tx G wd mg) (TB__law_refused : LamX.TabB base mg T.c__law_refused T.P__law_refused) : FnG P wd G.K mg base CX0 10 T.a_law T.d_law ps_law (spP G 1 false sp_law) := by
  have G__law_dice := (ok__law_dice (P := P) (wd := wd) (base := base) T).g
  have G_read_history := (ok_read_history (P := P) (wd := wd) (base := base) T).g
  have G_write_history := (ok_write_history (P := P) (wd := wd) (base := base) T).g
  have G__law_told := (ok__law_told (P := P) (wd := wd) (base := base) T).g
  have G__law_right := ok__law_right (P := P) (wd := wd) (base := base) T
  have G__law_refused := ok__law_refused (P := P) (wd := wd) (base := base) T TB__law_refused
  refine fnP T.F_law sc_law (by decide) (w := w_law G) (fun cdv A outer s H E hga hr => ?_) (pure_law)
  exact (py_cons (py_for (is := [1]) PassesOwn.never rfl (pxi_range1 rfl T.n_range (pxa_cons (px_callB (call_max2 rfl) max2_s rfl T.n_max (by decide +kernel) (pxa_cons px_int (pxa_cons (px_callB (call_min2 rfl) min2_s rfl T.n_min (by decide +kernel) (pxa_cons px_int (pxa_cons (px_callB len_anyK len_s rfl T.n_len (by decide +kernel) (pxa_cons (px_name 0) pxa_nil)) pxa_nil))) pxa_nil))) pxa_nil)) (pxg_name 1 sc_law.nd rfl (Or.inl rfl))
  (py_cons (py_setN 2 sc_law.nd rfl (Or.inl rfl) (pxn_callP G__law_dice hga (hr.mono (by decide)) rfl (pxa_cons (px_name 0) (pxa_cons (px_name 1) pxa_nil))))
  (py_one (py_if (pxw (pxw_or (pxt_not (pxt_val (px_callP G__law_right hga (hr.mono (by decide)) rfl (pxa_cons (px_name 2) pxa_nil)))) (pxw_or1 (pxt_not (pxt_val (px_callP G__law_refused hga (hr.mono (by decide)) rfl (pxa_cons (px_name 2) pxa_nil)))))))
  (py_one (py_ret px_bl))
  py_nil))))
  (py_cons (py_set 3 sc_law.nd rfl (Or.inl rfl) (px_tup (pxa_cons (px_tup (pxa_cons px_str (pxa_cons px_str (pxa_cons (px_op mul_ok mul_s px_str px_int) pxa_nil)))) (pxa_cons (px_tup (pxa_cons px_str (pxa_cons px_str (pxa_cons (px_tup (pxa_cons (px_op mul_ok mul_s px_str px_int) (pxa_cons px_str (pxa_cons (px_op mul_ok mul_s px_str px_int) pxa_nil)))) pxa_nil)))) (pxa_cons (px_tup (pxa_cons px_str (pxa_cons px_str pxa_nil))) pxa_nil)))))
  (py_cons (py_if (pxw (pxw_or (pxt_cmp (ne_ok hr.units) ne_s (px_callX G_read_history takes0 hga (hr.mono (by decide)) rfl (pxa_cons (px_callX G_write_history takes0 hga (hr.mono (by decide)) rfl (pxa_cons (px_name 3) pxa_nil)) pxa_nil)) (px_name 3) (nomark _)) (pxw_or1 (pxt_cmp (ne_ok hr.units) ne_s (px_callB len_anyK len_s rfl T.n_len (by decide +kernel) (pxa_cons (px_callX G_write_history takes0 hga (hr.mono (by decide)) rfl (pxa_cons (px_name 3) pxa_nil)) pxa_nil)) px_int (nomark _)))))
  (py_one (py_ret px_bl))
  py_nil)
  (py_cons (py_set 4 sc_law.nd rfl (Or.inl rfl) (px_op mul_ok mul_s (px_lst (pxa_cons px_str pxa_nil)) px_int))
  (py_cons (py_set 5 sc_law.nd rfl (Or.inl rfl) (px_lst (pxa_cons (px_callX G_read_history takes0 hga (hr.mono (by decide)) rfl (pxa_cons px_str pxa_nil)) (pxa_cons (px_callX G_write_history takes0 hga (hr.mono (by decide)) rfl (pxa_cons (px_tup pxa_nil) pxa_nil)) (pxa_cons (px_callP G__law_told hga (hr.mono (by decide)) rfl (pxa_cons (px_meth PySem.F.plainAttrs_str PySem.F.slot_str_join PySem.F.type_str_join (fun M H v d => tyD_str) joinK join_s px_str (pxa_cons (px_name 4) pxa_nil)) pxa_nil)) (pxa_cons (px_callP G__law_told hga (hr.mono (by decide)) rfl (pxa_cons (px_meth PySem.F.plainAttrs_str PySem.F.slot_str_join PySem.F.type_str_join (fun M H v d => tyD_str) joinK join_s px_str (pxa_cons (px_op add_ok add_s (px_cut (px_name 4) pxo_none (pxo_some px_int)) (px_lst (pxa_cons px_str pxa_nil))) pxa_nil)) pxa_nil)) pxa_nil))))))
  (py_cons (py_set 5 sc_law.nd rfl (Or.inl rfl) (px_op add_ok add_s (px_name 5) (px_lst (pxa_cons (px_callP G__law_told hga (hr.mono (by decide)) rfl (pxa_cons px_str pxa_nil)) (pxa_cons (px_callP G__law_told hga (hr.mono (by decide)) rfl (pxa_cons px_str pxa_nil)) (pxa_cons (px_callP G__law_told hga (hr.mono (by decide)) rfl (pxa_cons px_str pxa_nil)) (pxa_cons (px_callP G__law_told hga (hr.mono (by decide)) rfl (pxa_cons px_str pxa_nil)) pxa_nil)))))))
  (py_cons (py_set 6 sc_law.nd rfl (Or.inl rfl) (px_lst (pxa_cons (px_tup pxa_nil) (pxa_cons px_str (pxa_cons px_int (pxa_cons px_int (pxa_cons px_int (pxa_cons px_int (pxa_cons (px_tup (pxa_cons (px_tup (pxa_cons px_str (pxa_cons px_str (pxa_cons (px_tup pxa_nil) pxa_nil)))) pxa_nil)) (pxa_cons (px_tup (pxa_cons (px_tup (pxa_cons px_str (pxa_cons px_str (pxa_cons (px_tup (pxa_cons px_str (pxa_cons px_str pxa_nil))) pxa_nil)))) pxa_nil)) pxa_nil))))))))))
  (py_one (py_ret (px_and (px_cmp (eq_ok hr.units) eq_s (px_callB (reprAK hr.units hga) repr_s rfl T.n_repr (by decide +kernel) (pxa_cons (px_name 5) pxa_nil)) (px_callB (reprAK hr.units hga) repr_s rfl T.n_repr (by decide +kernel) (pxa_cons (px_name 6) pxa_nil)) (nomark _)) (px_one (px_cmp (eq_ok hr.units) eq_s (px_callB len_anyK len_s rfl T.n_len (by decide +kernel) (pxa_cons (px_callX G_read_history takes0 hga (hr.mono (by decide)) rfl (pxa_cons (px_meth PySem.F.plainAttrs_str PySem.F.slot_str_join PySem.F.type_str_join (fun M H v d => tyD_str) joinK join_s px_str (pxa_cons (px_cut (px_name 4) pxo_none (pxo_some px_int)) pxa_nil)) pxa_nil)) pxa_nil)) px_int (nomark _)))))))))))))
end
end Pu
namespace Pu
open PySem PySem.Spec PyProof.Rows L2 Lk Evl StX

open PySem.HandSPX
def kl_WORDS_OF_DEEDS : List (Str × Int) := [("use", 1), ("put", 2), ("move", 2), ("store", 1)]
theorem ke_WORDS_OF_DEEDS (z : Str) : km_WORDS_OF_DEEDS z = (kl_WORDS_OF_DEEDS.lookup z).map D.int := by
  unfold km_WORDS_OF_DEEDS kl_WORDS_OF_DEEDS
  by_cases h1 : z = Str.ofString "use"
  · subst h1; rfl
  rw [if_neg h1, List.lookup_cons, beq_eq_false_iff_ne.mpr h1]
  by_cases h2 : z = Str.ofString "put"
  · subst h2; rfl
  rw [if_neg h2, List.lookup_cons, beq_eq_false_iff_ne.mpr h2]
  by_cases h3 : z = Str.ofString "move"
  · subst h3; rfl
  rw [if_neg h3, List.lookup_cons, beq_eq_false_iff_ne.mpr h3]
  by_cases h4 : z = Str.ofString "store"
  · subst h4; rfl
  rw [if_neg h4, List.lookup_cons, beq_eq_false_iff_ne.mpr h4]
  rfl
theorem entry_law {ns : List Int} (h : ns.length ≤ 63) : sp_law [.fz (.sl (ns.map D.int))] (fun d _ => d = .bl true) fun _ _ _ _ => False := ⟨ns, rfl, by omega, fun _ => rfl⟩
theorem all_mk {l : PySem.W.OpenLaw} {w : World} {K : PySem.W.Frag} {h : Heap} {mg : Str → Option Value} {fa : Addr} (X : K.In h) (N : h.Ns mainGlobals mg) (hfa : mg "law" = some (.ref fa))
    {a_ParseError___init__ : Addr} {od_ParseError___init__ an_ParseError___init__ : Option Addr} {sl_ParseError___init__ : Array (Option Value)} {oc_ParseError___init__ kV_ParseError___init__ dc_ParseError___init__ pm_ParseError___init__ cd_ParseError___init__ ct_ParseError___init__ : Value}
    {a_is_text : Addr} {od_is_text an_is_text : Option Addr} {sl_is_text : Array (Option Value)} {oc_is_text kV_is_text dc_is_text pm_is_text cd_is_text ct_is_text : Value}
    {a_is_name : Addr} {od_is_name an_is_name : Option Addr} {sl_is_name : Array (Option Value)} {oc_is_name kV_is_name dc_is_name pm_is_name cd_is_name ct_is_name : Value}
    {a_is_path : Addr} {od_is_path an_is_path : Option Addr} {sl_is_path : Array (Option Value)} {oc_is_path kV_is_path dc_is_path pm_is_path cd_is_path ct_is_path : Value}
    {a_are_texts : Addr} {od_are_texts an_are_texts : Option Addr} {sl_are_texts : Array (Option Value)} {oc_are_texts kV_are_texts dc_are_texts pm_are_texts cd_are_texts ct_are_texts : Value}
    {a_is_second : Addr} {od_is_second an_is_second : Option Addr} {sl_is_second : Array (Option Value)} {oc_is_second kV_is_second dc_is_second pm_is_second cd_is_second ct_is_second : Value}
    {a_is_deed : Addr} {od_is_deed an_is_deed : Option Addr} {sl_is_deed : Array (Option Value)} {oc_is_deed kV_is_deed dc_is_deed pm_is_deed cd_is_deed ct_is_deed : Value}
    {a_is_history : Addr} {od_is_history an_is_history : Option Addr} {sl_is_history : Array (Option Value)} {oc_is_history kV_is_history dc_is_history pm_is_history cd_is_history ct_is_history : Value}
    {a_is_text_word : Addr} {od_is_text_word an_is_text_word : Option Addr} {sl_is_text_word : Array (Option Value)} {oc_is_text_word kV_is_text_word dc_is_text_word pm_is_text_word cd_is_text_word ct_is_text_word : Value}
    {a_deed_words : Addr} {od_deed_words an_deed_words : Option Addr} {sl_deed_words : Array (Option Value)} {oc_deed_words kV_deed_words dc_deed_words pm_deed_words cd_deed_words ct_deed_words : Value}
    {a_write_history : Addr} {od_write_history an_write_history : Option Addr} {sl_write_history : Array (Option Value)} {oc_write_history kV_write_history dc_write_history pm_write_history cd_write_history ct_write_history : Value}
    {a_deed_in : Addr} {od_deed_in an_deed_in : Option Addr} {sl_deed_in : Array (Option Value)} {oc_deed_in kV_deed_in dc_deed_in pm_deed_in cd_deed_in ct_deed_in : Value}
    {a_read_history : Addr} {od_read_history an_read_history : Option Addr} {sl_read_history : Array (Option Value)} {oc_read_history kV_read_history dc_read_history pm_read_history cd_read_history ct_read_history : Value}
    {a__law_dice : Addr} {od__law_dice an__law_dice : Option Addr} {sl__law_dice : Array (Option Value)} {oc__law_dice kV__law_dice dc__law_dice pm__law_dice cd__law_dice ct__law_dice : Value}
    {a__law_roll : Addr} {od__law_roll an__law_roll : Option Addr} {sl__law_roll : Array (Option Value)} {oc__law_roll kV__law_roll dc__law_roll pm__law_roll cd__law_roll ct__law_roll : Value}
    {a__law_one_of : Addr} {od__law_one_of an__law_one_of : Option Addr} {sl__law_one_of : Array (Option Value)} {oc__law_one_of kV__law_one_of dc__law_one_of pm__law_one_of cd__law_one_of ct__law_one_of : Value}
    {a__law_all_signs : Addr} {od__law_all_signs an__law_all_signs : Option Addr} {sl__law_all_signs : Array (Option Value)} {oc__law_all_signs kV__law_all_signs dc__law_all_signs pm__law_all_signs cd__law_all_signs ct__law_all_signs : Value}
    {a__law_word : Addr} {od__law_word an__law_word : Option Addr} {sl__law_word : Array (Option Value)} {oc__law_word kV__law_word dc__law_word pm__law_word cd__law_word ct__law_word : Value}
    {a__law_path : Addr} {od__law_path an__law_path : Option Addr} {sl__law_path : Array (Option Value)} {oc__law_path kV__law_path dc__law_path pm__law_path cd__law_path ct__law_path : Value}
    {a__law_deed : Addr} {od__law_deed an__law_deed : Option Addr} {sl__law_deed : Array (Option Value)} {oc__law_deed kV__law_deed dc__law_deed pm__law_deed cd__law_deed ct__law_deed : Value}
    {a__law_line : Addr} {od__law_line an__law_line : Option Addr} {sl__law_line : Array (Option Value)} {oc__law_line kV__law_line dc__law_line pm__law_line cd__law_line ct__law_line : Value}
    {a__law_texts_in : Addr} {od__law_texts_in an__law_texts_in : Option Addr} {sl__law_texts_in : Array (Option Value)} {oc__law_texts_in kV__law_texts_in dc__law_texts_in pm__law_texts_in cd__law_texts_in ct__law_texts_in : Value}
    {a__law_read : Addr} {od__law_read an__law_read : Option Addr} {sl__law_read : Array (Option Value)} {oc__law_read kV__law_read dc__law_read pm__law_read cd__law_read ct__law_read : Value}
    {a__law_is_deed : Addr} {od__law_is_deed an__law_is_deed : Option Addr} {sl__law_is_deed : Array (Option Value)} {oc__law_is_deed kV__law_is_deed dc__law_is_deed pm__law_is_deed cd__law_is_deed ct__law_is_deed : Value}
    {a__law_bent : Addr} {od__law_bent an__law_bent : Option Addr} {sl__law_bent : Array (Option Value)} {oc__law_bent kV__law_bent dc__law_bent pm__law_bent cd__law_bent ct__law_bent : Value}
    {a__law_told : Addr} {od__law_told an__law_told : Option Addr} {sl__law_told : Array (Option Value)} {oc__law_told kV__law_told dc__law_told pm__law_told cd__law_told ct__law_told : Value}
    {a__law_due : Addr} {od__law_due an__law_due : Option Addr} {sl__law_due : Array (Option Value)} {oc__law_due kV__law_due dc__law_due pm__law_due cd__law_due ct__law_due : Value}
    {a__law_right : Addr} {od__law_right an__law_right : Option Addr} {sl__law_right : Array (Option Value)} {oc__law_right kV__law_right dc__law_right pm__law_right cd__law_right ct__law_right : Value}
    {a__law_word_of : Addr} {od__law_word_of an__law_word_of : Option Addr} {sl__law_word_of : Array (Option Value)} {oc__law_word_of kV__law_word_of dc__law_word_of pm__law_word_of cd__law_word_of ct__law_word_of : Value}
    {a__law_refused : Addr} {od__law_refused an__law_refused : Option Addr} {sl__law_refused : Array (Option Value)} {oc__law_refused kV__law_refused dc__law_refused pm__law_refused cd__law_refused ct__law_refused : Value}
    {a_law : Addr} {od_law an_law : Option Addr} {sl_law : Array (Option Value)} {oc_law kV_law dc_law pm_law cd_law ct_law : Value}
    {c_DressError : Addr}
    {c_InvalidOperation : Addr}
    {c_InvalidText : Addr}
    {c_ParseError : Addr}
    {nm_ParseError q_ParseError : Str} {N_ParseError : Addr} {bs_ParseError bm_ParseError : List Value} {sn_ParseError : List Str} {su_ParseError : List Value} {ab_ParseError : Bool} {co_ParseError : Option Bool} {dd_ParseError : Option Addr} {k0_ParseError k1_ParseError k2_ParseError k3_ParseError k5_ParseError : Option Value}
    {t_SIGNS : Tok}
    {t_LETTERS : Tok}
    {t_MAX_NAME : Tok}
    {t_MAX_PATH : Tok}
    {t_MAX_DEEDS : Tok}
    {t_USE : Tok}
    {t_PUT : Tok}
    {t_MOVE : Tok}
    {t_TAKE_histories : Tok}
    {t_STORE : Tok}
    {t_TAKE_formats : Tok}
    {p_WORDS_OF_DEEDS : Addr}
    {c__law_refused_ P__law_refused_ : Addr}
    (h2_ParseError___init__ : K.lookup a_ParseError___init__ = some ⟨oc_ParseError___init__, od_ParseError___init__, .func (PySem.W.fnOf "__init__" "ParseError.__init__" (defArgs s_ParseError___init__) (defBody s_ParseError___init__) (defScope s_ParseError___init__) .none kV_ParseError___init__ dc_ParseError___init__ pm_ParseError___init__ an_ParseError___init__ cd_ParseError___init__ ct_ParseError___init__), sl_ParseError___init__⟩)
    (h3_ParseError___init__ : PySem.W.codeIn K cd_ParseError___init__ "ParseError.__init__" = true)
    (h4_ParseError___init__ : PySem.W.keepIn K (.ref a_ParseError___init__) = true)
    (h1_is_text : PySem.W.nsIn K mainGlobals "is_text" = some (some (.ref a_is_text)))
    (h2_is_text : K.lookup a_is_text = some ⟨oc_is_text, od_is_text, .func (PySem.W.fnOf "is_text" "is_text" (defArgs s_is_text) (defBody s_is_text) (defScope s_is_text) .none kV_is_text dc_is_text pm_is_text an_is_text cd_is_text ct_is_text), sl_is_text⟩)
    (h3_is_text : PySem.W.codeIn K cd_is_text "is_text" = true)
    (h4_is_text : PySem.W.keepIn K (.ref a_is_text) = true)
    (h1_is_name : PySem.W.nsIn K mainGlobals "is_name" = some (some (.ref a_is_name)))
    (h2_is_name : K.lookup a_is_name = some ⟨oc_is_name, od_is_name, .func (PySem.W.fnOf "is_name" "is_name" (defArgs s_is_name) (defBody s_is_name) (defScope s_is_name) .none kV_is_name dc_is_name pm_is_name an_is_name cd_is_name ct_is_name), sl_is_name⟩)
    (h3_is_name : PySem.W.codeIn K cd_is_name "is_name" = true)
    (h4_is_name : PySem.W.keepIn K (.ref a_is_name) = true)
    (h1_is_path : PySem.W.nsIn K mainGlobals "is_path" = some (some (.ref a_is_path)))
    (h2_is_path : K.lookup a_is_path = some ⟨oc_is_path, od_is_path, .func (PySem.W.fnOf "is_path" "is_path" (defArgs s_is_path) (defBody s_is_path) (defScope s_is_path) .none kV_is_path dc_is_path pm_is_path an_is_path cd_is_path ct_is_path), sl_is_path⟩)
    (h3_is_path : PySem.W.codeIn K cd_is_path "is_path" = true)
    (h4_is_path : PySem.W.keepIn K (.ref a_is_path) = true)
    (h1_are_texts : PySem.W.nsIn K mainGlobals "are_texts" = some (some (.ref a_are_texts)))
    (h2_are_texts : K.lookup a_are_texts = some ⟨oc_are_texts, od_are_texts, .func (PySem.W.fnOf "are_texts" "are_texts" (defArgs s_are_texts) (defBody s_are_texts) (defScope s_are_texts) .none kV_are_texts dc_are_texts pm_are_texts an_are_texts cd_are_texts ct_are_texts), sl_are_texts⟩)
    (h3_are_texts : PySem.W.codeIn K cd_are_texts "are_texts" = true)
    (h4_are_texts : PySem.W.keepIn K (.ref a_are_texts) = true)
    (h1_is_second : PySem.W.nsIn K mainGlobals "is_second" = some (some (.ref a_is_second)))
    (h2_is_second : K.lookup a_is_second = some ⟨oc_is_second, od_is_second, .func (PySem.W.fnOf "is_second" "is_second" (defArgs s_is_second) (defBody s_is_second) (defScope s_is_second) .none kV_is_second dc_is_second pm_is_second an_is_second cd_is_second ct_is_second), sl_is_second⟩)
    (h3_is_second : PySem.W.codeIn K cd_is_second "is_second" = true)
    (h4_is_second : PySem.W.keepIn K (.ref a_is_second) = true)
    (h1_is_deed : PySem.W.nsIn K mainGlobals "is_deed" = some (some (.ref a_is_deed)))
    (h2_is_deed : K.lookup a_is_deed = some ⟨oc_is_deed, od_is_deed, .func (PySem.W.fnOf "is_deed" "is_deed" (defArgs s_is_deed) (defBody s_is_deed) (defScope s_is_deed) .none kV_is_deed dc_is_deed pm_is_deed an_is_deed cd_is_deed ct_is_deed), sl_is_deed⟩)
    (h3_is_deed : PySem.W.codeIn K cd_is_deed "is_deed" = true)
    (h4_is_deed : PySem.W.keepIn K (.ref a_is_deed) = true)
    (h1_is_history : PySem.W.nsIn K mainGlobals "is_history" = some (some (.ref a_is_history)))
    (h2_is_history : K.lookup a_is_history = some ⟨oc_is_history, od_is_history, .func (PySem.W.fnOf "is_history" "is_history" (defArgs s_is_history) (defBody s_is_history) (defScope s_is_history) .none kV_is_history dc_is_history pm_is_history an_is_history cd_is_history ct_is_history), sl_is_history⟩)
    (h3_is_history : PySem.W.codeIn K cd_is_history "is_history" = true)
    (h4_is_history : PySem.W.keepIn K (.ref a_is_history) = true)
    (h1_is_text_word : PySem.W.nsIn K mainGlobals "is_text_word" = some (some (.ref a_is_text_word)))
    (h2_is_text_word : K.lookup a_is_text_word = some ⟨oc_is_text_word, od_is_text_word, .func (PySem.W.fnOf "is_text_word" "is_text_word" (defArgs s_is_text_word) (defBody s_is_text_word) (defScope s_is_text_word) .none kV_is_text_word dc_is_text_word pm_is_text_word an_is_text_word cd_is_text_word ct_is_text_word), sl_is_text_word⟩)
    (h3_is_text_word : PySem.W.codeIn K cd_is_text_word "is_text_word" = true)
    (h4_is_text_word : PySem.W.keepIn K (.ref a_is_text_word) = true)
    (h1_deed_words : PySem.W.nsIn K mainGlobals "deed_words" = some (some (.ref a_deed_words)))
    (h2_deed_words : K.lookup a_deed_words = some ⟨oc_deed_words, od_deed_words, .func (PySem.W.fnOf "deed_words" "deed_words" (defArgs s_deed_words) (defBody s_deed_words) (defScope s_deed_words) .none kV_deed_words dc_deed_words pm_deed_words an_deed_words cd_deed_words ct_deed_words), sl_deed_words⟩)
    (h3_deed_words : PySem.W.codeIn K cd_deed_words "deed_words" = true)
    (h4_deed_words : PySem.W.keepIn K (.ref a_deed_words) = true)
    (h1_write_history : PySem.W.nsIn K mainGlobals "write_history" = some (some (.ref a_write_history)))
    (h2_write_history : K.lookup a_write_history = some ⟨oc_write_history, od_write_history, .func (PySem.W.fnOf "write_history" "write_history" (defArgs s_write_history) (defBody s_write_history) (defScope s_write_history) .none kV_write_history dc_write_history pm_write_history an_write_history cd_write_history ct_write_history), sl_write_history⟩)
    (h3_write_history : PySem.W.codeIn K cd_write_history "write_history" = true)
    (h4_write_history : PySem.W.keepIn K (.ref a_write_history) = true)
    (h1_deed_in : PySem.W.nsIn K mainGlobals "deed_in" = some (some (.ref a_deed_in)))
    (h2_deed_in : K.lookup a_deed_in = some ⟨oc_deed_in, od_deed_in, .func (PySem.W.fnOf "deed_in" "deed_in" (defArgs s_deed_in) (defBody s_deed_in) (defScope s_deed_in) .none kV_deed_in dc_deed_in pm_deed_in an_deed_in cd_deed_in ct_deed_in), sl_deed_in⟩)
    (h3_deed_in : PySem.W.codeIn K cd_deed_in "deed_in" = true)
    (h4_deed_in : PySem.W.keepIn K (.ref a_deed_in) = true)
    (h1_read_history : PySem.W.nsIn K mainGlobals "read_history" = some (some (.ref a_read_history)))
    (h2_read_history : K.lookup a_read_history = some ⟨oc_read_history, od_read_history, .func (PySem.W.fnOf "read_history" "read_history" (defArgs s_read_history) (defBody s_read_history) (defScope s_read_history) .none kV_read_history dc_read_history pm_read_history an_read_history cd_read_history ct_read_history), sl_read_history⟩)
    (h3_read_history : PySem.W.codeIn K cd_read_history "read_history" = true)
    (h4_read_history : PySem.W.keepIn K (.ref a_read_history) = true)
    (h1__law_dice : PySem.W.nsIn K mainGlobals "_law_dice" = some (some (.ref a__law_dice)))
    (h2__law_dice : K.lookup a__law_dice = some ⟨oc__law_dice, od__law_dice, .func (PySem.W.fnOf "_law_dice" "_law_dice" (defArgs s__law_dice) (defBody s__law_dice) (defScope s__law_dice) .none kV__law_dice dc__law_dice pm__law_dice an__law_dice cd__law_dice ct__law_dice), sl__law_dice⟩)
    (h3__law_dice : PySem.W.codeIn K cd__law_dice "_law_dice" = true)
    (h4__law_dice : PySem.W.keepIn K (.ref a__law_dice) = true)
    (h1__law_roll : PySem.W.nsIn K mainGlobals "_law_roll" = some (some (.ref a__law_roll)))
    (h2__law_roll : K.lookup a__law_roll = some ⟨oc__law_roll, od__law_roll, .func (PySem.W.fnOf "_law_roll" "_law_roll" (defArgs s__law_roll) (defBody s__law_roll) (defScope s__law_roll) .none kV__law_roll dc__law_roll pm__law_roll an__law_roll cd__law_roll ct__law_roll), sl__law_roll⟩)
    (h3__law_roll : PySem.W.codeIn K cd__law_roll "_law_roll" = true)
    (h4__law_roll : PySem.W.keepIn K (.ref a__law_roll) = true)
    (h1__law_one_of : PySem.W.nsIn K mainGlobals "_law_one_of" = some (some (.ref a__law_one_of)))
    (h2__law_one_of : K.lookup a__law_one_of = some ⟨oc__law_one_of, od__law_one_of, .func (PySem.W.fnOf "_law_one_of" "_law_one_of" (defArgs s__law_one_of) (defBody s__law_one_of) (defScope s__law_one_of) .none kV__law_one_of dc__law_one_of pm__law_one_of an__law_one_of cd__law_one_of ct__law_one_of), sl__law_one_of⟩)
    (h3__law_one_of : PySem.W.codeIn K cd__law_one_of "_law_one_of" = true)
    (h4__law_one_of : PySem.W.keepIn K (.ref a__law_one_of) = true)
    (h1__law_all_signs : PySem.W.nsIn K mainGlobals "_law_all_signs" = some (some (.ref a__law_all_signs)))
    (h2__law_all_signs : K.lookup a__law_all_signs = some ⟨oc__law_all_signs, od__law_all_signs, .func (PySem.W.fnOf "_law_all_signs" "_law_all_signs" (defArgs s__law_all_signs) (defBody s__law_all_signs) (defScope s__law_all_signs) .none kV__law_all_signs dc__law_all_signs pm__law_all_signs an__law_all_signs cd__law_all_signs ct__law_all_signs), sl__law_all_signs⟩)
    (h3__law_all_signs : PySem.W.codeIn K cd__law_all_signs "_law_all_signs" = true)
    (h4__law_all_signs : PySem.W.keepIn K (.ref a__law_all_signs) = true)
    (h1__law_word : PySem.W.nsIn K mainGlobals "_law_word" = some (some (.ref a__law_word)))
    (h2__law_word : K.lookup a__law_word = some ⟨oc__law_word, od__law_word, .func (PySem.W.fnOf "_law_word" "_law_word" (defArgs s__law_word) (defBody s__law_word) (defScope s__law_word) .none kV__law_word dc__law_word pm__law_word an__law_word cd__law_word ct__law_word), sl__law_word⟩)
    (h3__law_word : PySem.W.codeIn K cd__law_word "_law_word" = true)
    (h4__law_word : PySem.W.keepIn K (.ref a__law_word) = true)
    (h1__law_path : PySem.W.nsIn K mainGlobals "_law_path" = some (some (.ref a__law_path)))
    (h2__law_path : K.lookup a__law_path = some ⟨oc__law_path, od__law_path, .func (PySem.W.fnOf "_law_path" "_law_path" (defArgs s__law_path) (defBody s__law_path) (defScope s__law_path) .none kV__law_path dc__law_path pm__law_path an__law_path cd__law_path ct__law_path), sl__law_path⟩)
    (h3__law_path : PySem.W.codeIn K cd__law_path "_law_path" = true)
    (h4__law_path : PySem.W.keepIn K (.ref a__law_path) = true)
    (h1__law_deed : PySem.W.nsIn K mainGlobals "_law_deed" = some (some (.ref a__law_deed)))
    (h2__law_deed : K.lookup a__law_deed = some ⟨oc__law_deed, od__law_deed, .func (PySem.W.fnOf "_law_deed" "_law_deed" (defArgs s__law_deed) (defBody s__law_deed) (defScope s__law_deed) .none kV__law_deed dc__law_deed pm__law_deed an__law_deed cd__law_deed ct__law_deed), sl__law_deed⟩)
    (h3__law_deed : PySem.W.codeIn K cd__law_deed "_law_deed" = true)
    (h4__law_deed : PySem.W.keepIn K (.ref a__law_deed) = true)
    (h1__law_line : PySem.W.nsIn K mainGlobals "_law_line" = some (some (.ref a__law_line)))
    (h2__law_line : K.lookup a__law_line = some ⟨oc__law_line, od__law_line, .func (PySem.W.fnOf "_law_line" "_law_line" (defArgs s__law_line) (defBody s__law_line) (defScope s__law_line) .none kV__law_line dc__law_line pm__law_line an__law_line cd__law_line ct__law_line), sl__law_line⟩)
    (h3__law_line : PySem.W.codeIn K cd__law_line "_law_line" = true)
    (h4__law_line : PySem.W.keepIn K (.ref a__law_line) = true)
    (h1__law_texts_in : PySem.W.nsIn K mainGlobals "_law_texts_in" = some (some (.ref a__law_texts_in)))
    (h2__law_texts_in : K.lookup a__law_texts_in = some ⟨oc__law_texts_in, od__law_texts_in, .func (PySem.W.fnOf "_law_texts_in" "_law_texts_in" (defArgs s__law_texts_in) (defBody s__law_texts_in) (defScope s__law_texts_in) .none kV__law_texts_in dc__law_texts_in pm__law_texts_in an__law_texts_in cd__law_texts_in ct__law_texts_in), sl__law_texts_in⟩)
    (h3__law_texts_in : PySem.W.codeIn K cd__law_texts_in "_law_texts_in" = true)
    (h4__law_texts_in : PySem.W.keepIn K (.ref a__law_texts_in) = true)
    (h1__law_read : PySem.W.nsIn K mainGlobals "_law_read" = some (some (.ref a__law_read)))
    (h2__law_read : K.lookup a__law_read = some ⟨oc__law_read, od__law_read, .func (PySem.W.fnOf "_law_read" "_law_read" (defArgs s__law_read) (defBody s__law_read) (defScope s__law_read) .none kV__law_read dc__law_read pm__law_read an__law_read cd__law_read ct__law_read), sl__law_read⟩)
    (h3__law_read : PySem.W.codeIn K cd__law_read "_law_read" = true)
    (h4__law_read : PySem.W.keepIn K (.ref a__law_read) = true)
    (h1__law_is_deed : PySem.W.nsIn K mainGlobals "_law_is_deed" = some (some (.ref a__law_is_deed)))
    (h2__law_is_deed : K.lookup a__law_is_deed = some ⟨oc__law_is_deed, od__law_is_deed, .func (PySem.W.fnOf "_law_is_deed" "_law_is_deed" (defArgs s__law_is_deed) (defBody s__law_is_deed) (defScope s__law_is_deed) .none kV__law_is_deed dc__law_is_deed pm__law_is_deed an__law_is_deed cd__law_is_deed ct__law_is_deed), sl__law_is_deed⟩)
    (h3__law_is_deed : PySem.W.codeIn K cd__law_is_deed "_law_is_deed" = true)
    (h4__law_is_deed : PySem.W.keepIn K (.ref a__law_is_deed) = true)
    (h1__law_bent : PySem.W.nsIn K mainGlobals "_law_bent" = some (some (.ref a__law_bent)))
    (h2__law_bent : K.lookup a__law_bent = some ⟨oc__law_bent, od__law_bent, .func (PySem.W.fnOf "_law_bent" "_law_bent" (defArgs s__law_bent) (defBody s__law_bent) (defScope s__law_bent) .none kV__law_bent dc__law_bent pm__law_bent an__law_bent cd__law_bent ct__law_bent), sl__law_bent⟩)
    (h3__law_bent : PySem.W.codeIn K cd__law_bent "_law_bent" = true)
    (h4__law_bent : PySem.W.keepIn K (.ref a__law_bent) = true)
    (h1__law_told : PySem.W.nsIn K mainGlobals "_law_told" = some (some (.ref a__law_told)))
    (h2__law_told : K.lookup a__law_told = some ⟨oc__law_told, od__law_told, .func (PySem.W.fnOf "_law_told" "_law_told" (defArgs s__law_told) (defBody s__law_told) (defScope s__law_told) .none kV__law_told dc__law_told pm__law_told an__law_told cd__law_told ct__law_told), sl__law_told⟩)
    (h3__law_told : PySem.W.codeIn K cd__law_told "_law_told" = true)
    (h4__law_told : PySem.W.keepIn K (.ref a__law_told) = true)
    (h1__law_due : PySem.W.nsIn K mainGlobals "_law_due" = some (some (.ref a__law_due)))
    (h2__law_due : K.lookup a__law_due = some ⟨oc__law_due, od__law_due, .func (PySem.W.fnOf "_law_due" "_law_due" (defArgs s__law_due) (defBody s__law_due) (defScope s__law_due) .none kV__law_due dc__law_due pm__law_due an__law_due cd__law_due ct__law_due), sl__law_due⟩)
    (h3__law_due : PySem.W.codeIn K cd__law_due "_law_due" = true)
    (h4__law_due : PySem.W.keepIn K (.ref a__law_due) = true)
    (h1__law_right : PySem.W.nsIn K mainGlobals "_law_right" = some (some (.ref a__law_right)))
    (h2__law_right : K.lookup a__law_right = some ⟨oc__law_right, od__law_right, .func (PySem.W.fnOf "_law_right" "_law_right" (defArgs s__law_right) (defBody s__law_right) (defScope s__law_right) .none kV__law_right dc__law_right pm__law_right an__law_right cd__law_right ct__law_right), sl__law_right⟩)
    (h3__law_right : PySem.W.codeIn K cd__law_right "_law_right" = true)
    (h4__law_right : PySem.W.keepIn K (.ref a__law_right) = true)
    (h1__law_word_of : PySem.W.nsIn K mainGlobals "_law_word_of" = some (some (.ref a__law_word_of)))
    (h2__law_word_of : K.lookup a__law_word_of = some ⟨oc__law_word_of, od__law_word_of, .func (PySem.W.fnOf "_law_word_of" "_law_word_of" (defArgs s__law_word_of) (defBody s__law_word_of) (defScope s__law_word_of) .none kV__law_word_of dc__law_word_of pm__law_word_of an__law_word_of cd__law_word_of ct__law_word_of), sl__law_word_of⟩)
    (h3__law_word_of : PySem.W.codeIn K cd__law_word_of "_law_word_of" = true)
    (h4__law_word_of : PySem.W.keepIn K (.ref a__law_word_of) = true)
    (h1__law_refused : PySem.W.nsIn K mainGlobals "_law_refused" = some (some (.ref a__law_refused)))
    (h2__law_refused : K.lookup a__law_refused = some ⟨oc__law_refused, od__law_refused, .func (PySem.W.fnOf "_law_refused" "_law_refused" (defArgs s__law_refused) (defBody s__law_refused) (defScope s__law_refused) .none kV__law_refused dc__law_refused pm__law_refused an__law_refused cd__law_refused ct__law_refused), sl__law_refused⟩)
    (h3__law_refused : PySem.W.codeIn K cd__law_refused "_law_refused" = true)
    (h4__law_refused : PySem.W.keepIn K (.ref a__law_refused) = true)
    (h1_law : PySem.W.nsIn K mainGlobals "law" = some (some (.ref a_law)))
    (h2_law : K.lookup a_law = some ⟨oc_law, od_law, .func (PySem.W.fnOf "law" "law" (defArgs s_law) (defBody s_law) (defScope s_law) .none kV_law dc_law pm_law an_law cd_law ct_law), sl_law⟩)
    (h3_law : PySem.W.codeIn K cd_law "law" = true)
    (h4_law : PySem.W.keepIn K (.ref a_law) = true)
    (m_DressError : PySem.W.nsIn K mainGlobals "DressError" = some (some (.ref c_DressError)))
    (x_DressError : PySem.W.excIn K c_DressError [.type "ValueError", .type "Exception", .type "BaseException", .type "object"] "ValueError.__new__" = true)
    (k_DressError : PySem.W.keepIn K (.ref c_DressError) = true)
    (b_DressError : PySem.W.subIn K (.ref c_DressError) (.type "BaseException") = some true)
    (t_DressError : PySem.W.typeIn K (.ref c_DressError) = some (.type "type"))
    (i_DressError : PySem.W.isClsIn K c_DressError = true)
    (m_InvalidOperation : PySem.W.nsIn K mainGlobals "InvalidOperation" = some (some (.ref c_InvalidOperation)))
    (x_InvalidOperation : PySem.W.excIn K c_InvalidOperation [.type "ValueError", .type "Exception", .type "BaseException", .type "object"] "ValueError.__new__" = true)
    (k_InvalidOperation : PySem.W.keepIn K (.ref c_InvalidOperation) = true)
    (b_InvalidOperation : PySem.W.subIn K (.ref c_InvalidOperation) (.type "BaseException") = some true)
    (t_InvalidOperation : PySem.W.typeIn K (.ref c_InvalidOperation) = some (.type "type"))
    (i_InvalidOperation : PySem.W.isClsIn K c_InvalidOperation = true)
    (m_InvalidText : PySem.W.nsIn K mainGlobals "InvalidText" = some (some (.ref c_InvalidText)))
    (x_InvalidText : PySem.W.excIn K c_InvalidText [.type "ValueError", .type "Exception", .type "BaseException", .type "object"] "ValueError.__new__" = true)
    (k_InvalidText : PySem.W.keepIn K (.ref c_InvalidText) = true)
    (b_InvalidText : PySem.W.subIn K (.ref c_InvalidText) (.type "BaseException") = some true)
    (t_InvalidText : PySem.W.typeIn K (.ref c_InvalidText) = some (.type "type"))
    (i_InvalidText : PySem.W.isClsIn K c_InvalidText = true)
    (m_ParseError : PySem.W.nsIn K mainGlobals "ParseError" = some (some (.ref c_ParseError)))
    (l_ParseError : K.lookup c_ParseError = some (excClassObj nm_ParseError q_ParseError c_ParseError N_ParseError bs_ParseError bm_ParseError true sn_ParseError su_ParseError ab_ParseError co_ParseError dd_ParseError k0_ParseError k1_ParseError k2_ParseError k3_ParseError k5_ParseError "ValueError.__new__"))
    (r_ParseError : PySem.HandSPX.refsVE bm_ParseError = true)
    (s_ParseError : PySem.W.findIn K (.ref c_ParseError) "__setattr__" = some (some (.builtin "object.__setattr__")))
    (b_ParseError : PySem.W.subIn K (.ref c_ParseError) (.type "BaseException") = some true)
    (t_ParseError : PySem.W.typeIn K (.ref c_ParseError) = some (.type "type"))
    (k_ParseError : PySem.W.keepIn K (.ref c_ParseError) = true)
    (f_ParseError : PySem.W.findIn K (.ref c_ParseError) "__init__" = some (some (.ref a_ParseError___init__)))
    (tf_ParseError : PySem.W.typeIn K (.ref a_ParseError___init__) = some (.type "function"))
    (ga_ParseError : PySem.W.findIn K (.ref c_ParseError) "__getattribute__" = some (some (.builtin "BaseException.__getattribute__")))
    (gg_ParseError : PySem.W.findIn K (.ref c_ParseError) "__getattr__" = some none)
    (hd_ParseError : PySem.W.hasDictIn K c_ParseError = true)
    (no_ParseError : PySem.W.findIn K (.ref c_ParseError) "number" = some none)
    (e_InvalidOperation_InvalidOperation : PySem.W.exmOne K (.ref c_InvalidOperation) (.ref c_InvalidOperation) = some true)
    (e_InvalidText_InvalidText : PySem.W.exmOne K (.ref c_InvalidText) (.ref c_InvalidText) = some true)
    (e_ParseError_ParseError : PySem.W.exmOne K (.ref c_ParseError) (.ref c_ParseError) = some true)
    (e_InvalidOperation_InvalidText : PySem.W.exmOne K (.ref c_InvalidOperation) (.ref c_InvalidText) = some false)
    (e_InvalidText_InvalidOperation : PySem.W.exmOne K (.ref c_InvalidText) (.ref c_InvalidOperation) = some false)
    (m_SIGNS : PySem.W.nsIn K mainGlobals "SIGNS" = some (some (.str (Str.ofString "#$0123:_abcdefg") t_SIGNS)))
    (m_LETTERS : PySem.W.nsIn K mainGlobals "LETTERS" = some (some (.str (Str.ofString "abcdefghijklmnopqrstuvwxyz") t_LETTERS)))
    (m_MAX_NAME : PySem.W.nsIn K mainGlobals "MAX_NAME" = some (some (.int 8 t_MAX_NAME)))
    (m_MAX_PATH : PySem.W.nsIn K mainGlobals "MAX_PATH" = some (some (.int 12 t_MAX_PATH)))
    (m_MAX_DEEDS : PySem.W.nsIn K mainGlobals "MAX_DEEDS" = some (some (.int 40 t_MAX_DEEDS)))
    (m_USE : PySem.W.nsIn K mainGlobals "USE" = some (some (.str (Str.ofString "use") t_USE)))
    (m_PUT : PySem.W.nsIn K mainGlobals "PUT" = some (some (.str (Str.ofString "put") t_PUT)))
    (m_MOVE : PySem.W.nsIn K mainGlobals "MOVE" = some (some (.str (Str.ofString "move") t_MOVE)))
    (m_TAKE_histories : PySem.W.nsIn K mainGlobals "TAKE_histories" = some (some (.str (Str.ofString "take") t_TAKE_histories)))
    (m_STORE : PySem.W.nsIn K mainGlobals "STORE" = some (some (.str (Str.ofString "store") t_STORE)))
    (m_TAKE_formats : PySem.W.nsIn K mainGlobals "TAKE_formats" = some (some (.str (Str.ofString "take") t_TAKE_formats)))
    (m_WORDS_OF_DEEDS : PySem.W.nsIn K mainGlobals "WORDS_OF_DEEDS" = some (some (.ref p_WORDS_OF_DEEDS)))
    (di_WORDS_OF_DEEDS : dicI K p_WORDS_OF_DEEDS = some (kvsIn w.params kl_WORDS_OF_DEEDS))
    (n_len : PySem.W.nsIn K mainGlobals "len" = some none)
    (n_isinstance : PySem.W.nsIn K mainGlobals "isinstance" = some none)
    (n_all : PySem.W.nsIn K mainGlobals "all" = some none)
    (n_str : PySem.W.nsIn K mainGlobals "str" = some none)
    (n_int : PySem.W.nsIn K mainGlobals "int" = some none)
    (n_abs : PySem.W.nsIn K mainGlobals "abs" = some none)
    (n_max : PySem.W.nsIn K mainGlobals "max" = some none)
    (n_min : PySem.W.nsIn K mainGlobals "min" = some none)
    (n_range : PySem.W.nsIn K mainGlobals "range" = some none)
    (n_tuple : PySem.W.nsIn K mainGlobals "tuple" = some none)
    (n_list : PySem.W.nsIn K mainGlobals "list" = some none)
    (n_enumerate : PySem.W.nsIn K mainGlobals "enumerate" = some none)
    (n_repr : PySem.W.nsIn K mainGlobals "repr" = some none)
    (hc__law_refused : cd__law_refused = .ref c__law_refused_)
    (hh__law_refused : PySem.W.codeHdIn K c__law_refused_ P__law_refused_ = true)
    (hn__law_refused : K.lookup P__law_refused_ = none)
    (ht__law_refused : h.get? P__law_refused_ = some { cls := .none, data := .fields #[] })
    : ∃ (fd : FuncData) (cs : List (Addr × Addr)) (sp : Sp), (∀ p ∈ cs, h.get? p.2 = some { cls := .none, data := .fields #[] }) ∧ (∀ p ∈ cs, K.lookup p.2 = none) ∧ (∀ p ∈ cs, PySem.W.CodeHd h p.1 p.2) ∧ (∀ (s : Shared) (u : Value), BindsTo s fd ⟨[u], []⟩ [("script", u)]) ∧
        (∀ (H : Hp) (a : Addr) (ns : List Int), ns.length ≤ 63 → (∀ p ∈ cs, H p.2 = some (.tbl #[])) → SqL K H a (ns.map V.int) → sp [.ref a] H (fun v _ => v = .bl true) fun _ _ _ => False) ∧
        ∀ base : Heap, K.In base → base.Ns mainGlobals mg → (∀ p ∈ cs, LamX.TabB base mg p.1 p.2) → FnG l.prog w K mg base CX0 10 fa fd ["script"] sp := by
  have e0 := hfa.symm.trans (PySem.W.mg_of X N h1_law)
  have e1 : a_law = fa := by cases e0; rfl
  subst e1
  have g_DressError : clOf [(Str.ofString "DressError", c_DressError), (Str.ofString "InvalidOperation", c_InvalidOperation), (Str.ofString "InvalidText", c_InvalidText), (Str.ofString "ParseError", c_ParseError)] "DressError" = c_DressError := by kernel_rfl
  have g_InvalidOperation : clOf [(Str.ofString "DressError", c_DressError), (Str.ofString "InvalidOperation", c_InvalidOperation), (Str.ofString "InvalidText", c_InvalidText), (Str.ofString "ParseError", c_ParseError)] "InvalidOperation" = c_InvalidOperation := by kernel_rfl
  have g_InvalidText : clOf [(Str.ofString "DressError", c_DressError), (Str.ofString "InvalidOperation", c_InvalidOperation), (Str.ofString "InvalidText", c_InvalidText), (Str.ofString "ParseError", c_ParseError)] "InvalidText" = c_InvalidText := by kernel_rfl
  have g_ParseError : clOf [(Str.ofString "DressError", c_DressError), (Str.ofString "InvalidOperation", c_InvalidOperation), (Str.ofString "InvalidText", c_InvalidText), (Str.ofString "ParseError", c_ParseError)] "ParseError" = c_ParseError := by kernel_rfl
  obtain ⟨G, gK, gT, gC, gS⟩ := gx_ex K [(Str.ofString "DressError", c_DressError), (Str.ofString "InvalidOperation", c_InvalidOperation), (Str.ofString "InvalidText", c_InvalidText), (Str.ofString "ParseError", c_ParseError)] [((Str.ofString "InvalidOperation", Str.ofString "InvalidOperation"), true), ((Str.ofString "InvalidText", Str.ofString "InvalidText"), true), ((Str.ofString "ParseError", Str.ofString "ParseError"), true), ((Str.ofString "InvalidOperation", Str.ofString "InvalidText"), false), ((Str.ofString "InvalidText", Str.ofString "InvalidOperation"), false)] [(P__law_refused_, ((Str.ofString "_law_refused") ++ (Str.ofString ".<locals>.")) ++ (Str.ofString "<lambda>"))] (by
    intro p hp
    rcases List.mem_cons.mp hp with rfl | hp
    · show PySem.W.exmOne K (.ref (clOf [(Str.ofString "DressError", c_DressError), (Str.ofString "InvalidOperation", c_InvalidOperation), (Str.ofString "InvalidText", c_InvalidText), (Str.ofString "ParseError", c_ParseError)] "InvalidOperation")) (.ref (clOf [(Str.ofString "DressError", c_DressError), (Str.ofString "InvalidOperation", c_InvalidOperation), (Str.ofString "InvalidText", c_InvalidText), (Str.ofString "ParseError", c_ParseError)] "InvalidOperation")) = some true
      rw [g_InvalidOperation]
      exact e_InvalidOperation_InvalidOperation
    rcases List.mem_cons.mp hp with rfl | hp
    · show PySem.W.exmOne K (.ref (clOf [(Str.ofString "DressError", c_DressError), (Str.ofString "InvalidOperation", c_InvalidOperation), (Str.ofString "InvalidText", c_InvalidText), (Str.ofString "ParseError", c_ParseError)] "InvalidText")) (.ref (clOf [(Str.ofString "DressError", c_DressError), (Str.ofString "InvalidOperation", c_InvalidOperation), (Str.ofString "InvalidText", c_InvalidText), (Str.ofString "ParseError", c_ParseError)] "InvalidText")) = some true
      rw [g_InvalidText]
      exact e_InvalidText_InvalidText
    rcases List.mem_cons.mp hp with rfl | hp
    · show PySem.W.exmOne K (.ref (clOf [(Str.ofString "DressError", c_DressError), (Str.ofString "InvalidOperation", c_InvalidOperation), (Str.ofString "InvalidText", c_InvalidText), (Str.ofString "ParseError", c_ParseError)] "ParseError")) (.ref (clOf [(Str.ofString "DressError", c_DressError), (Str.ofString "InvalidOperation", c_InvalidOperation), (Str.ofString "InvalidText", c_InvalidText), (Str.ofString "ParseError", c_ParseError)] "ParseError")) = some true
      rw [g_ParseError]
      exact e_ParseError_ParseError
    rcases List.mem_cons.mp hp with rfl | hp
    · show PySem.W.exmOne K (.ref (clOf [(Str.ofString "DressError", c_DressError), (Str.ofString "InvalidOperation", c_InvalidOperation), (Str.ofString "InvalidText", c_InvalidText), (Str.ofString "ParseError", c_ParseError)] "InvalidOperation")) (.ref (clOf [(Str.ofString "DressError", c_DressError), (Str.ofString "InvalidOperation", c_InvalidOperation), (Str.ofString "InvalidText", c_InvalidText), (Str.ofString "ParseError", c_ParseError)] "InvalidText")) = some false
      rw [g_InvalidOperation, g_InvalidText]
      exact e_InvalidOperation_InvalidText
    rcases List.mem_cons.mp hp with rfl | hp
    · show PySem.W.exmOne K (.ref (clOf [(Str.ofString "DressError", c_DressError), (Str.ofString "InvalidOperation", c_InvalidOperation), (Str.ofString "InvalidText", c_InvalidText), (Str.ofString "ParseError", c_ParseError)] "InvalidText")) (.ref (clOf [(Str.ofString "DressError", c_DressError), (Str.ofString "InvalidOperation", c_InvalidOperation), (Str.ofString "InvalidText", c_InvalidText), (Str.ofString "ParseError", c_ParseError)] "InvalidOperation")) = some false
      rw [g_InvalidText, g_InvalidOperation]
      exact e_InvalidText_InvalidOperation
    cases hp)
  have s_InvalidOperation_InvalidOperation : G.sub "InvalidOperation" "InvalidOperation" = some true := (gS _ _).trans (by kernel_rfl)
  have s_InvalidText_InvalidText : G.sub "InvalidText" "InvalidText" = some true := (gS _ _).trans (by kernel_rfl)
  have s_ParseError_ParseError : G.sub "ParseError" "ParseError" = some true := (gS _ _).trans (by kernel_rfl)
  have s_InvalidOperation_InvalidText : G.sub "InvalidOperation" "InvalidText" = some false := (gS _ _).trans (by kernel_rfl)
  have s_InvalidText_InvalidOperation : G.sub "InvalidText" "InvalidOperation" = some false := (gS _ _).trans (by kernel_rfl)
  have k_cl_DressError := (gC "DressError").trans g_DressError
  clear g_DressError
  have k_cl_InvalidOperation := (gC "InvalidOperation").trans g_InvalidOperation
  clear g_InvalidOperation
  have k_cl_InvalidText := (gC "InvalidText").trans g_InvalidText
  clear g_InvalidText
  have k_cl_ParseError := (gC "ParseError").trans g_ParseError
  clear g_ParseError
  clear gC gS
  subst gK
  subst k_cl_DressError
  subst k_cl_InvalidOperation
  subst k_cl_InvalidText
  subst k_cl_ParseError
  have F_ParseError___init__ := fun_mk (st := s_ParseError___init__) h2_ParseError___init__ h3_ParseError___init__ h4_ParseError___init__
  have B_ParseError___init__ := F_ParseError___init__.binds (ps := ps_ParseError___init__) fun _ _ _ _ _ _ us hl => match us, hl with | [_, _], _ => rfl
  have F_is_text := fun_mk (st := s_is_text) h2_is_text h3_is_text h4_is_text
  have B_is_text := F_is_text.binds (ps := ps_is_text) fun _ _ _ _ _ _ us hl => match us, hl with | [_], _ => rfl
  have F_is_name := fun_mk (st := s_is_name) h2_is_name h3_is_name h4_is_name
  have B_is_name := F_is_name.binds (ps := ps_is_name) fun _ _ _ _ _ _ us hl => match us, hl with | [_], _ => rfl
  have F_is_path := fun_mk (st := s_is_path) h2_is_path h3_is_path h4_is_path
  have B_is_path := F_is_path.binds (ps := ps_is_path) fun _ _ _ _ _ _ us hl => match us, hl with | [_], _ => rfl
  have F_are_texts := fun_mk (st := s_are_texts) h2_are_texts h3_are_texts h4_are_texts
  have B_are_texts := F_are_texts.binds (ps := ps_are_texts) fun _ _ _ _ _ _ us hl => match us, hl with | [_], _ => rfl
  have F_is_second := fun_mk (st := s_is_second) h2_is_second h3_is_second h4_is_second
  have B_is_second := F_is_second.binds (ps := ps_is_second) fun _ _ _ _ _ _ us hl => match us, hl with | [_, _], _ => rfl
  have F_is_deed := fun_mk (st := s_is_deed) h2_is_deed h3_is_deed h4_is_deed
  have B_is_deed := F_is_deed.binds (ps := ps_is_deed) fun _ _ _ _ _ _ us hl => match us, hl with | [_], _ => rfl
  have F_is_history := fun_mk (st := s_is_history) h2_is_history h3_is_history h4_is_history
  have B_is_history := F_is_history.binds (ps := ps_is_history) fun _ _ _ _ _ _ us hl => match us, hl with | [_], _ => rfl
  have F_is_text_word := fun_mk (st := s_is_text_word) h2_is_text_word h3_is_text_word h4_is_text_word
  have B_is_text_word := F_is_text_word.binds (ps := ps_is_text_word) fun _ _ _ _ _ _ us hl => match us, hl with | [_], _ => rfl
  have F_deed_words := fun_mk (st := s_deed_words) h2_deed_words h3_deed_words h4_deed_words
  have B_deed_words := F_deed_words.binds (ps := ps_deed_words) fun _ _ _ _ _ _ us hl => match us, hl with | [_], _ => rfl
  have F_write_history := fun_mk (st := s_write_history) h2_write_history h3_write_history h4_write_history
  have B_write_history := F_write_history.binds (ps := ps_write_history) fun _ _ _ _ _ _ us hl => match us, hl with | [_], _ => rfl
  have F_deed_in := fun_mk (st := s_deed_in) h2_deed_in h3_deed_in h4_deed_in
  have B_deed_in := F_deed_in.binds (ps := ps_deed_in) fun _ _ _ _ _ _ us hl => match us, hl with | [_], _ => rfl
  have F_read_history := fun_mk (st := s_read_history) h2_read_history h3_read_history h4_read_history
  have B_read_history := F_read_history.binds (ps := ps_read_history) fun _ _ _ _ _ _ us hl => match us, hl with | [_], _ => rfl
  have F__law_dice := fun_mk (st := s__law_dice) h2__law_dice h3__law_dice h4__law_dice
  have B__law_dice := F__law_dice.binds (ps := ps__law_dice) fun _ _ _ _ _ _ us hl => match us, hl with | [_, _], _ => rfl
  have F__law_roll := fun_mk (st := s__law_roll) h2__law_roll h3__law_roll h4__law_roll
  have B__law_roll := F__law_roll.binds (ps := ps__law_roll) fun _ _ _ _ _ _ us hl => match us, hl with | [_, _], _ => rfl
  have F__law_one_of := fun_mk (st := s__law_one_of) h2__law_one_of h3__law_one_of h4__law_one_of
  have B__law_one_of := F__law_one_of.binds (ps := ps__law_one_of) fun _ _ _ _ _ _ us hl => match us, hl with | [_, _], _ => rfl
  have F__law_all_signs := fun_mk (st := s__law_all_signs) h2__law_all_signs h3__law_all_signs h4__law_all_signs
  have B__law_all_signs := F__law_all_signs.binds (ps := ps__law_all_signs) fun _ _ _ _ _ _ us hl => match us, hl with | [], _ => rfl
  have F__law_word := fun_mk (st := s__law_word) h2__law_word h3__law_word h4__law_word
  have B__law_word := F__law_word.binds (ps := ps__law_word) fun _ _ _ _ _ _ us hl => match us, hl with | [_, _], _ => rfl
  have F__law_path := fun_mk (st := s__law_path) h2__law_path h3__law_path h4__law_path
  have B__law_path := F__law_path.binds (ps := ps__law_path) fun _ _ _ _ _ _ us hl => match us, hl with | [_], _ => rfl
  have F__law_deed := fun_mk (st := s__law_deed) h2__law_deed h3__law_deed h4__law_deed
  have B__law_deed := F__law_deed.binds (ps := ps__law_deed) fun _ _ _ _ _ _ us hl => match us, hl with | [_], _ => rfl
  have F__law_line := fun_mk (st := s__law_line) h2__law_line h3__law_line h4__law_line
  have B__law_line := F__law_line.binds (ps := ps__law_line) fun _ _ _ _ _ _ us hl => match us, hl with | [_], _ => rfl
  have F__law_texts_in := fun_mk (st := s__law_texts_in) h2__law_texts_in h3__law_texts_in h4__law_texts_in
  have B__law_texts_in := F__law_texts_in.binds (ps := ps__law_texts_in) fun _ _ _ _ _ _ us hl => match us, hl with | [_], _ => rfl
  have F__law_read := fun_mk (st := s__law_read) h2__law_read h3__law_read h4__law_read
  have B__law_read := F__law_read.binds (ps := ps__law_read) fun _ _ _ _ _ _ us hl => match us, hl with | [_], _ => rfl
  have F__law_is_deed := fun_mk (st := s__law_is_deed) h2__law_is_deed h3__law_is_deed h4__law_is_deed
  have B__law_is_deed := F__law_is_deed.binds (ps := ps__law_is_deed) fun _ _ _ _ _ _ us hl => match us, hl with | [_], _ => rfl
  have F__law_bent := fun_mk (st := s__law_bent) h2__law_bent h3__law_bent h4__law_bent
  have B__law_bent := F__law_bent.binds (ps := ps__law_bent) fun _ _ _ _ _ _ us hl => match us, hl with | [_, _], _ => rfl
  have F__law_told := fun_mk (st := s__law_told) h2__law_told h3__law_told h4__law_told
  have B__law_told := F__law_told.binds (ps := ps__law_told) fun _ _ _ _ _ _ us hl => match us, hl with | [_], _ => rfl
  have F__law_due := fun_mk (st := s__law_due) h2__law_due h3__law_due h4__law_due
  have B__law_due := F__law_due.binds (ps := ps__law_due) fun _ _ _ _ _ _ us hl => match us, hl with | [_], _ => rfl
  have F__law_right := fun_mk (st := s__law_right) h2__law_right h3__law_right h4__law_right
  have B__law_right := F__law_right.binds (ps := ps__law_right) fun _ _ _ _ _ _ us hl => match us, hl with | [_], _ => rfl
  have F__law_word_of := fun_mk (st := s__law_word_of) h2__law_word_of h3__law_word_of h4__law_word_of
  have B__law_word_of := F__law_word_of.binds (ps := ps__law_word_of) fun _ _ _ _ _ _ us hl => match us, hl with | [_], _ => rfl
  have F__law_refused := fun_mk (st := s__law_refused) h2__law_refused h3__law_refused h4__law_refused
  have B__law_refused := F__law_refused.binds (ps := ps__law_refused) fun _ _ _ _ _ _ us hl => match us, hl with | [_], _ => rfl
  have F_law := fun_mk (st := s_law) h2_law h3_law h4_law
  have B_law := F_law.binds (ps := ps_law) fun _ _ _ _ _ _ us hl => match us, hl with | [_], _ => rfl
  let T : Tx G w mg := {
    a_ParseError___init__ := a_ParseError___init__, d_ParseError___init__ := _, F_ParseError___init__ := F_ParseError___init__, b_ParseError___init__ := B_ParseError___init__,
    a_is_text := a_is_text, d_is_text := _, F_is_text := F_is_text, b_is_text := B_is_text, m_is_text := PySem.W.mg_of X N h1_is_text,
    a_is_name := a_is_name, d_is_name := _, F_is_name := F_is_name, b_is_name := B_is_name, m_is_name := PySem.W.mg_of X N h1_is_name,
    a_is_path := a_is_path, d_is_path := _, F_is_path := F_is_path, b_is_path := B_is_path, m_is_path := PySem.W.mg_of X N h1_is_path,
    a_are_texts := a_are_texts, d_are_texts := _, F_are_texts := F_are_texts, b_are_texts := B_are_texts, m_are_texts := PySem.W.mg_of X N h1_are_texts,
    a_is_second := a_is_second, d_is_second := _, F_is_second := F_is_second, b_is_second := B_is_second, m_is_second := PySem.W.mg_of X N h1_is_second,
    a_is_deed := a_is_deed, d_is_deed := _, F_is_deed := F_is_deed, b_is_deed := B_is_deed, m_is_deed := PySem.W.mg_of X N h1_is_deed,
    a_is_history := a_is_history, d_is_history := _, F_is_history := F_is_history, b_is_history := B_is_history, m_is_history := PySem.W.mg_of X N h1_is_history,
    a_is_text_word := a_is_text_word, d_is_text_word := _, F_is_text_word := F_is_text_word, b_is_text_word := B_is_text_word, m_is_text_word := PySem.W.mg_of X N h1_is_text_word,
    a_deed_words := a_deed_words, d_deed_words := _, F_deed_words := F_deed_words, b_deed_words := B_deed_words, m_deed_words := PySem.W.mg_of X N h1_deed_words,
    a_write_history := a_write_history, d_write_history := _, F_write_history := F_write_history, b_write_history := B_write_history, m_write_history := PySem.W.mg_of X N h1_write_history,
    a_deed_in := a_deed_in, d_deed_in := _, F_deed_in := F_deed_in, b_deed_in := B_deed_in, m_deed_in := PySem.W.mg_of X N h1_deed_in,
    a_read_history := a_read_history, d_read_history := _, F_read_history := F_read_history, b_read_history := B_read_history, m_read_history := PySem.W.mg_of X N h1_read_history,
    a__law_dice := a__law_dice, d__law_dice := _, F__law_dice := F__law_dice, b__law_dice := B__law_dice, m__law_dice := PySem.W.mg_of X N h1__law_dice,
    a__law_roll := a__law_roll, d__law_roll := _, F__law_roll := F__law_roll, b__law_roll := B__law_roll, m__law_roll := PySem.W.mg_of X N h1__law_roll,
    a__law_one_of := a__law_one_of, d__law_one_of := _, F__law_one_of := F__law_one_of, b__law_one_of := B__law_one_of, m__law_one_of := PySem.W.mg_of X N h1__law_one_of,
    a__law_all_signs := a__law_all_signs, d__law_all_signs := _, F__law_all_signs := F__law_all_signs, b__law_all_signs := B__law_all_signs, m__law_all_signs := PySem.W.mg_of X N h1__law_all_signs,
    a__law_word := a__law_word, d__law_word := _, F__law_word := F__law_word, b__law_word := B__law_word, m__law_word := PySem.W.mg_of X N h1__law_word,
    a__law_path := a__law_path, d__law_path := _, F__law_path := F__law_path, b__law_path := B__law_path, m__law_path := PySem.W.mg_of X N h1__law_path,
    a__law_deed := a__law_deed, d__law_deed := _, F__law_deed := F__law_deed, b__law_deed := B__law_deed, m__law_deed := PySem.W.mg_of X N h1__law_deed,
    a__law_line := a__law_line, d__law_line := _, F__law_line := F__law_line, b__law_line := B__law_line, m__law_line := PySem.W.mg_of X N h1__law_line,
    a__law_texts_in := a__law_texts_in, d__law_texts_in := _, F__law_texts_in := F__law_texts_in, b__law_texts_in := B__law_texts_in, m__law_texts_in := PySem.W.mg_of X N h1__law_texts_in,
    a__law_read := a__law_read, d__law_read := _, F__law_read := F__law_read, b__law_read := B__law_read, m__law_read := PySem.W.mg_of X N h1__law_read,
    a__law_is_deed := a__law_is_deed, d__law_is_deed := _, F__law_is_deed := F__law_is_deed, b__law_is_deed := B__law_is_deed, m__law_is_deed := PySem.W.mg_of X N h1__law_is_deed,
    a__law_bent := a__law_bent, d__law_bent := _, F__law_bent := F__law_bent, b__law_bent := B__law_bent, m__law_bent := PySem.W.mg_of X N h1__law_bent,
    a__law_told := a__law_told, d__law_told := _, F__law_told := F__law_told, b__law_told := B__law_told, m__law_told := PySem.W.mg_of X N h1__law_told,
    a__law_due := a__law_due, d__law_due := _, F__law_due := F__law_due, b__law_due := B__law_due, m__law_due := PySem.W.mg_of X N h1__law_due,
    a__law_right := a__law_right, d__law_right := _, F__law_right := F__law_right, b__law_right := B__law_right, m__law_right := PySem.W.mg_of X N h1__law_right,
    a__law_word_of := a__law_word_of, d__law_word_of := _, F__law_word_of := F__law_word_of, b__law_word_of := B__law_word_of, m__law_word_of := PySem.W.mg_of X N h1__law_word_of,
    a__law_refused := a__law_refused, d__law_refused := _, F__law_refused := F__law_refused, b__law_refused := B__law_refused, m__law_refused := PySem.W.mg_of X N h1__law_refused,
    a_law := a_law, d_law := _, F_law := F_law, b_law := B_law, m_law := PySem.W.mg_of X N h1_law,
    m_DressError := PySem.W.mg_of X N m_DressError, x_DressError := x_DressError, k_DressError := k_DressError, b_DressError := b_DressError, t_DressError := t_DressError, i_DressError := i_DressError,
    m_InvalidOperation := PySem.W.mg_of X N m_InvalidOperation, x_InvalidOperation := x_InvalidOperation, k_InvalidOperation := k_InvalidOperation, b_InvalidOperation := b_InvalidOperation, t_InvalidOperation := t_InvalidOperation, i_InvalidOperation := i_InvalidOperation,
    m_InvalidText := PySem.W.mg_of X N m_InvalidText, x_InvalidText := x_InvalidText, k_InvalidText := k_InvalidText, b_InvalidText := b_InvalidText, t_InvalidText := t_InvalidText, i_InvalidText := i_InvalidText,
    m_ParseError := PySem.W.mg_of X N m_ParseError, o_ParseError := ⟨⟨_, _, _, _, _, _, _, _, _, _, _, _, _, _, _, l_ParseError, r_ParseError⟩, s_ParseError, b_ParseError, t_ParseError, k_ParseError⟩, f_ParseError := f_ParseError, tf_ParseError := tf_ParseError, xf_ParseError := ⟨ga_ParseError, gg_ParseError, b_ParseError, hd_ParseError⟩, no_ParseError := no_ParseError,
    e_InvalidOperation_InvalidOperation := s_InvalidOperation_InvalidOperation,
    e_InvalidText_InvalidText := s_InvalidText_InvalidText,
    e_ParseError_ParseError := s_ParseError_ParseError,
    e_InvalidOperation_InvalidText := s_InvalidOperation_InvalidText,
    e_InvalidText_InvalidOperation := s_InvalidText_InvalidOperation,
    t_SIGNS := t_SIGNS, m_SIGNS := PySem.W.mg_of X N m_SIGNS,
    t_LETTERS := t_LETTERS, m_LETTERS := PySem.W.mg_of X N m_LETTERS,
    t_MAX_NAME := t_MAX_NAME, m_MAX_NAME := PySem.W.mg_of X N m_MAX_NAME,
    t_MAX_PATH := t_MAX_PATH, m_MAX_PATH := PySem.W.mg_of X N m_MAX_PATH,
    t_MAX_DEEDS := t_MAX_DEEDS, m_MAX_DEEDS := PySem.W.mg_of X N m_MAX_DEEDS,
    t_USE := t_USE, m_USE := PySem.W.mg_of X N m_USE,
    t_PUT := t_PUT, m_PUT := PySem.W.mg_of X N m_PUT,
    t_MOVE := t_MOVE, m_MOVE := PySem.W.mg_of X N m_MOVE,
    t_TAKE_histories := t_TAKE_histories, m_TAKE_histories := PySem.W.mg_of X N m_TAKE_histories,
    t_STORE := t_STORE, m_STORE := PySem.W.mg_of X N m_STORE,
    t_TAKE_formats := t_TAKE_formats, m_TAKE_formats := PySem.W.mg_of X N m_TAKE_formats,
    p_WORDS_OF_DEEDS := p_WORDS_OF_DEEDS, m_WORDS_OF_DEEDS := PySem.W.mg_of X N m_WORDS_OF_DEEDS, km_WORDS_OF_DEEDS := kmapd_of kl_WORDS_OF_DEEDS di_WORDS_OF_DEEDS ke_WORDS_OF_DEEDS,
    n_len := PySem.W.mg_none_of X N n_len,
    n_isinstance := PySem.W.mg_none_of X N n_isinstance,
    n_all := PySem.W.mg_none_of X N n_all,
    n_str := PySem.W.mg_none_of X N n_str,
    n_int := PySem.W.mg_none_of X N n_int,
    n_abs := PySem.W.mg_none_of X N n_abs,
    n_max := PySem.W.mg_none_of X N n_max,
    n_min := PySem.W.mg_none_of X N n_min,
    n_range := PySem.W.mg_none_of X N n_range,
    n_tuple := PySem.W.mg_none_of X N n_tuple,
    n_list := PySem.W.mg_none_of X N n_list,
    n_enumerate := PySem.W.mg_none_of X N n_enumerate,
    n_repr := PySem.W.mg_none_of X N n_repr,
    c__law_refused := c__law_refused_, P__law_refused := P__law_refused_, hc__law_refused := hc__law_refused, tm__law_refused := by rw [gT]; exact List.mem_cons_self, tu__law_refused := fun p hp _ => by rw [gT] at hp; rw [List.mem_singleton.mp hp] }
  refine ⟨PySem.W.fnOf "law" "law" (defArgs s_law) (defBody s_law) (defScope s_law) .none kV_law dc_law pm_law an_law cd_law ct_law, [(c__law_refused_, P__law_refused_)], spP G 1 false sp_law, fun p hp => ?_, fun p hp => ?_, fun p hp => ?_, fun s v => .of_eq rfl, fun H a ns hl ht hS => ?_, fun base _ _ TB => ?_⟩
  · rw [List.mem_singleton.mp hp]; exact ht__law_refused
  · rw [List.mem_singleton.mp hp]; exact hn__law_refused
  · rw [List.mem_singleton.mp hp]; exact PySem.W.codeHd_of_K X hh__law_refused
  · exact entry_ok hS ht (by rw [gT]; rfl) (entry_law hl)
  · exact ok_law T (TB _ List.mem_cons_self)
theorem walk {l : PySem.W.OpenLaw} {q : Program} {loose : List Str} {XP : (Str → Option Value) → Heap → Prop} {YP : World → Heap → Prop} {d : DefRec} {K : Params → PySem.W.Frag} (hn : l.most = some 63) (hdf : d.params.defaults = [])
    (hY : ∀ (w : World) (h : Heap), YP w h → (K w.params).In h)
    (F : ∀ (w : World) (mg : Str → Option Value) (fa : Addr) (h : Heap), YP w h → (K w.params).In h → h.Ns mainGlobals mg → mg d.name = some (.ref fa) →
      ∃ (fd : FuncData) (cs : List (Addr × Addr)) (sp : Sp), (∀ p ∈ cs, h.get? p.2 = some { cls := .none, data := .fields #[] }) ∧ (∀ p ∈ cs, (K w.params).lookup p.2 = none) ∧ (∀ p ∈ cs, PySem.W.CodeHd h p.1 p.2) ∧ (∀ (s : Shared) (u : Value), BindsTo s fd ⟨[u], []⟩ [("script", u)]) ∧
        (∀ (H : Hp) (a : Addr) (ns : List Int), ns.length ≤ 63 → (∀ p ∈ cs, H p.2 = some (.tbl #[])) → SqL (K w.params) H a (ns.map V.int) → sp [.ref a] H (fun v _ => v = .bl true) fun _ _ _ => False) ∧
        ∀ base : Heap, (K w.params).In base → base.Ns mainGlobals mg → (∀ p ∈ cs, LamX.TabB base mg p.1 p.2) → FnG l.prog w (K w.params) mg base CX0 10 fa fd ["script"] sp) :
    PySem.W.WalkO q loose XP YP l.row.toRowW d [] (fun f vs => PySem.call f vs) :=
  walk_ofTG (n := 63) (k := 10) (x := "script") hn (by decide) hdf ⟨rfl, by decide, by decide⟩ hY F
end Pu
open PySem PySem.W PyProof.Rows
set_option maxRecDepth 100000 in
set_option maxHeartbeats 0 in
theorem PySem.Challenge.cw_cleandress_k76_histories_there_and_back_holds : PySem.Challenge.rw_cleandress_k76_histories_there_and_back.Holds := by
  w_on; o_law; k_head; (case hw => w_witness2)
  k_fill
  refine Pu.walk (l := PySem.Challenge.rw_cleandress_k76_histories_there_and_back) rfl rfl (fun w h Y => PySem.W.km_in_of Y) ?F
  case F =>
    intro w mg fa h Y KX G hmg
    have hT8 := PySem.W.km_tabs_of Y
    refine' Pu.all_mk (P__law_refused_ := 241) KX G hmg ?h2_ParseError___init__ ?h3_ParseError___init__ ?h4_ParseError___init__ ?h1_is_text ?h2_is_text ?h3_is_text ?h4_is_text ?h1_is_name ?h2_is_name ?h3_is_name ?h4_is_name ?h1_is_path ?h2_is_path ?h3_is_path ?h4_is_path ?h1_are_texts ?h2_are_texts ?h3_are_texts ?h4_are_texts ?h1_is_second ?h2_is_second ?h3_is_second ?h4_is_second ?h1_is_deed ?h2_is_deed ?h3_is_deed ?h4_is_deed ?h1_is_history ?h2_is_history ?h3_is_history ?h4_is_history ?h1_is_text_word ?h2_is_text_word ?h3_is_text_word ?h4_is_text_word ?h1_deed_words ?h2_deed_words ?h3_deed_words ?h4_deed_words ?h1_write_history ?h2_write_history ?h3_write_history ?h4_write_history ?h1_deed_in ?h2_deed_in ?h3_deed_in ?h4_deed_in ?h1_read_history ?h2_read_history ?h3_read_history ?h4_read_history ?h1__law_dice ?h2__law_dice ?h3__law_dice ?h4__law_dice ?h1__law_roll ?h2__law_roll ?h3__law_roll ?h4__law_roll ?h1__law_one_of ?h2__law_one_of ?h3__law_one_of ?h4__law_one_of ?h1__law_all_signs ?h2__law_all_signs ?h3__law_all_signs ?h4__law_all_signs ?h1__law_word ?h2__law_word ?h3__law_word ?h4__law_word ?h1__law_path ?h2__law_path ?h3__law_path ?h4__law_path ?h1__law_deed ?h2__law_deed ?h3__law_deed ?h4__law_deed ?h1__law_line ?h2__law_line ?h3__law_line ?h4__law_line ?h1__law_texts_in ?h2__law_texts_in ?h3__law_texts_in ?h4__law_texts_in ?h1__law_read ?h2__law_read ?h3__law_read ?h4__law_read ?h1__law_is_deed ?h2__law_is_deed ?h3__law_is_deed ?h4__law_is_deed ?h1__law_bent ?h2__law_bent ?h3__law_bent ?h4__law_bent ?h1__law_told ?h2__law_told ?h3__law_told ?h4__law_told ?h1__law_due ?h2__law_due ?h3__law_due ?h4__law_due ?h1__law_right ?h2__law_right ?h3__law_right ?h4__law_right ?h1__law_word_of ?h2__law_word_of ?h3__law_word_of ?h4__law_word_of ?h1__law_refused ?h2__law_refused ?h3__law_refused ?h4__law_refused ?h1_law ?h2_law ?h3_law ?h4_law ?m_DressError ?x_DressError ?k_DressError ?b_DressError ?t_DressError ?i_DressError ?m_InvalidOperation ?x_InvalidOperation ?k_InvalidOperation ?b_InvalidOperation ?t_InvalidOperation ?i_InvalidOperation ?m_InvalidText ?x_InvalidText ?k_InvalidText ?b_InvalidText ?t_InvalidText ?i_InvalidText ?m_ParseError ?l_ParseError ?r_ParseError ?s_ParseError ?b_ParseError ?t_ParseError ?k_ParseError ?f_ParseError ?tf_ParseError ?ga_ParseError ?gg_ParseError ?hd_ParseError ?no_ParseError ?e_InvalidOperation_InvalidOperation ?e_InvalidText_InvalidText ?e_ParseError_ParseError ?e_InvalidOperation_InvalidText ?e_InvalidText_InvalidOperation ?m_SIGNS ?m_LETTERS ?m_MAX_NAME ?m_MAX_PATH ?m_MAX_DEEDS ?m_USE ?m_PUT ?m_MOVE ?m_TAKE_histories ?m_STORE ?m_TAKE_formats ?m_WORDS_OF_DEEDS ?di_WORDS_OF_DEEDS ?n_len ?n_isinstance ?n_all ?n_str ?n_int ?n_abs ?n_max ?n_min ?n_range ?n_tuple ?n_list ?n_enumerate ?n_repr ?hc__law_refused ?hh__law_refused ?hn__law_refused ?ht__law_refused
    (case h1_is_text => k_is)
    (case h2_is_text => k_is)
    (case h3_is_text => k_is)
    (case h4_is_text => k_is)
    (case h1_is_name => k_is)
    (case h2_is_name => k_is)
    (case h3_is_name => k_is)
    (case h4_is_name => k_is)
    (case h1_is_path => k_is)
    (case h2_is_path => k_is)
    (case h3_is_path => k_is)
    (case h4_is_path => k_is)
    (case h1_are_texts => k_is)
    (case h2_are_texts => k_is)
    (case h3_are_texts => k_is)
    (case h4_are_texts => k_is)
    (case h1_is_second => k_is)
    (case h2_is_second => k_is)
    (case h3_is_second => k_is)
    (case h4_is_second => k_is)
    (case h1_is_deed => k_is)
    (case h2_is_deed => k_is)
    (case h3_is_deed => k_is)
    (case h4_is_deed => k_is)
    (case h1_is_history => k_is)
    (case h2_is_history => k_is)
    (case h3_is_history => k_is)
    (case h4_is_history => k_is)
    (case h1_is_text_word => k_is)
    (case h2_is_text_word => k_is)
    (case h3_is_text_word => k_is)
    (case h4_is_text_word => k_is)
    (case h1_deed_words => k_is)
    (case h2_deed_words => k_is)
    (case h3_deed_words => k_is)
    (case h4_deed_words => k_is)
    (case h1_write_history => k_is)
    (case h2_write_history => k_is)
    (case h3_write_history => k_is)
    (case h4_write_history => k_is)
    (case h1_deed_in => k_is)
    (case h2_deed_in => k_is)
    (case h3_deed_in => k_is)
    (case h4_deed_in => k_is)
    (case h1_read_history => k_is)
    (case h2_read_history => k_is)
    (case h3_read_history => k_is)
    (case h4_read_history => k_is)
    (case h1__law_dice => k_is)
    (case h2__law_dice => k_is)
    (case h3__law_dice => k_is)
    (case h4__law_dice => k_is)
    (case h1__law_roll => k_is)
    (case h2__law_roll => k_is)
    (case h3__law_roll => k_is)
    (case h4__law_roll => k_is)
    (case h1__law_one_of => k_is)
    (case h2__law_one_of => k_is)
    (case h3__law_one_of => k_is)
    (case h4__law_one_of => k_is)
    (case h1__law_all_signs => k_is)
    (case h2__law_all_signs => k_is)
    (case h3__law_all_signs => k_is)
    (case h4__law_all_signs => k_is)
    (case h1__law_word => k_is)
    (case h2__law_word => k_is)
    (case h3__law_word => k_is)
    (case h4__law_word => k_is)
    (case h1__law_path => k_is)
    (case h2__law_path => k_is)
    (case h3__law_path => k_is)
    (case h4__law_path => k_is)
    (case h1__law_deed => k_is)
    (case h2__law_deed => k_is)
    (case h3__law_deed => k_is)
    (case h4__law_deed => k_is)
    (case h1__law_line => k_is)
    (case h2__law_line => k_is)
    (case h3__law_line => k_is)
    (case h4__law_line => k_is)
    (case h1__law_texts_in => k_is)
    (case h2__law_texts_in => k_is)
    (case h3__law_texts_in => k_is)
    (case h4__law_texts_in => k_is)
    (case h1__law_read => k_is)
    (case h2__law_read => k_is)
    (case h3__law_read => k_is)
    (case h4__law_read => k_is)
    (case h1__law_is_deed => k_is)
    (case h2__law_is_deed => k_is)
    (case h3__law_is_deed => k_is)
    (case h4__law_is_deed => k_is)
    (case h1__law_bent => k_is)
    (case h2__law_bent => k_is)
    (case h3__law_bent => k_is)
    (case h4__law_bent => k_is)
    (case h1__law_told => k_is)
    (case h2__law_told => k_is)
    (case h3__law_told => k_is)
    (case h4__law_told => k_is)
    (case h1__law_due => k_is)
    (case h2__law_due => k_is)
    (case h3__law_due => k_is)
    (case h4__law_due => k_is)
    (case h1__law_right => k_is)
    (case h2__law_right => k_is)
    (case h3__law_right => k_is)
    (case h4__law_right => k_is)
    (case h1__law_word_of => k_is)
    (case h2__law_word_of => k_is)
    (case h3__law_word_of => k_is)
    (case h4__law_word_of => k_is)
    (case h1__law_refused => k_is)
    (case h2__law_refused => k_is)
    (case h3__law_refused => k_is)
    (case h4__law_refused => k_is)
    (case h1_law => k_is)
    (case h2_law => k_is)
    (case h3_law => k_is)
    (case h4_law => k_is)
    (case m_DressError => k_is)
    (case x_DressError => k_exc)
    (case k_DressError => k_is)
    (case b_DressError => k_is)
    (case t_DressError => k_is)
    (case i_DressError => k_is)
    (case m_InvalidOperation => k_is)
    (case x_InvalidOperation => k_exc)
    (case k_InvalidOperation => k_is)
    (case b_InvalidOperation => k_is)
    (case t_InvalidOperation => k_is)
    (case i_InvalidOperation => k_is)
    (case m_InvalidText => k_is)
    (case x_InvalidText => k_exc)
    (case k_InvalidText => k_is)
    (case b_InvalidText => k_is)
    (case t_InvalidText => k_is)
    (case i_InvalidText => k_is)
    (case m_ParseError => k_is)
    (case l_ParseError => k_is)
    (case r_ParseError => kernel_rfl)
    (case s_ParseError => k_is)
    (case b_ParseError => k_is)
    (case t_ParseError => k_is)
    (case k_ParseError => k_is)
    (case f_ParseError => k_is)
    (case tf_ParseError => k_is)
    (case ga_ParseError => k_is)
    (case gg_ParseError => k_is)
    (case hd_ParseError => k_is)
    (case no_ParseError => k_is)
    (case e_InvalidOperation_InvalidOperation => kernel_rfl)
    (case e_InvalidText_InvalidText => kernel_rfl)
    (case e_ParseError_ParseError => kernel_rfl)
    (case e_InvalidOperation_InvalidText => kernel_rfl)
    (case e_InvalidText_InvalidOperation => kernel_rfl)
    (case m_SIGNS => k_is)
    (case m_LETTERS => k_is)
    (case m_MAX_NAME => k_is)
    (case m_MAX_PATH => k_is)
    (case m_MAX_DEEDS => k_is)
    (case m_USE => k_is)
    (case m_PUT => k_is)
    (case m_MOVE => k_is)
    (case m_TAKE_histories => k_is)
    (case m_STORE => k_is)
    (case m_TAKE_formats => k_is)
    (case m_WORDS_OF_DEEDS => k_is)
    (case di_WORDS_OF_DEEDS => kernel_rfl)
    (case n_len => k_is)
    (case n_isinstance => k_is)
    (case n_all => k_is)
    (case n_str => k_is)
    (case n_int => k_is)
    (case n_abs => k_is)
    (case n_max => k_is)
    (case n_min => k_is)
    (case n_range => k_is)
    (case n_tuple => k_is)
    (case n_list => k_is)
    (case n_enumerate => k_is)
    (case n_repr => k_is)
    (case hc__law_refused => exact rfl)
    (case hh__law_refused => kernel_rfl)
    (case hn__law_refused => kernel_rfl)
    (case ht__law_refused => exact hT8 241 (List.mem_singleton.mpr rfl))
    (case h2_ParseError___init__ => k_is)
    (case h3_ParseError___init__ => k_is)
    (case h4_ParseError___init__ => k_is)
