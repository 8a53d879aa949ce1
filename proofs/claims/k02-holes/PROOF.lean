import PyProof.Rows.All
import Wide.All
import OpenK.AllK
import Wide.FinOn
import HandS.ForMost
import HandS.Exc
import HandS.WordsExc
import HandS.ExcOwn
import HandS.TupAny
import HandS.IsInst
import HandS.Evl
import HandS.Steps
import HandS.TryMany
import PyProof.ReprRoads
import PyProof.ListStr
import PyProof.Draws
import PyProof.EnumFor
import PyProof.EnumMake
import HandS.Ends
import KE.KLam
import KE.KNestM
import HandS.Lambda
import HandS.EndTab
import HandS.ReplaceLit
import KE.KUnpackStar
import HandS.MapJoin
import HandS.Deep
import HandS.Dict
import HandS.More
import HandS.Star
import HandS.ExcInit
import HandS.ExcField
import HandS.ClsMeth
import HandS.Property
import HandS.OwnEq
import KE.KCallOwn
import HandS.SetTxt0
import HandS.Set
import HandS.SetFor
import HandS.Strs
import PyProof.Rows.SortShellAny
import HandS.Style
import KE.KRevSl
import PyProof.P3Eq
import PyProof.TupleOfStr
import PyProof.Rows.RegFStrParts
import HandS.Flow
import HandS.TupMul
import HandS.Zip
import HandS.FStr
import PyProof.ReprLen
import PySem.Challenge.RW_cleandress_k02_holes_as_values
set_option Elab.async false
set_option linter.all false
set_option maxRecDepth 100000
set_option maxHeartbeats 4000000
/-! ### rules that the layer lacks -/
namespace Lk
open PySem PySem.Spec PyProof.Rows L2 Evl
def CPowB (i j : Int) : Prop := 0 ≤ j ∧ (Builtin.Int.intBits i : Int) * j ≤ 2 ^ 27
section
variable {X : Cx}
theorem op_powB : OpR X (binaryOp .Pow) (rI CPowB fun i j => .int (i ^ j.toNat)) := opI fun _ _ _ _ _ _ _ hc q => pow_int hc.1 hc.2 q
/-- text * n, 0 ≤ n -/
def repS (x : Str) (n : Nat) : Str := ⟨(List.replicate n x.cps.toList).flatten.toArray⟩
theorem foldl_app (x : Array Nat) : ∀ (n : Nat) (acc : Array Nat), (List.replicate n x).foldl (· ++ ·) acc = acc ++ (List.replicate n x.toList).flatten.toArray
  | 0, acc => by simp
  | n + 1, acc => by
    rw [List.replicate_succ, List.foldl_cons, foldl_app x n, List.replicate_succ, List.flatten_cons]
    apply Array.ext'
    simp
theorem repS_fold (x : Str) (n : Nat) : (⟨(List.replicate n x.cps).foldl (· ++ ·) #[]⟩ : Str) = repS x n := by
  unfold repS
  rw [foldl_app]
  simp
theorem repS_zero (x : Str) : repS x 0 = Str.empty := by simp [repS, Str.empty]
theorem repS_one (x : Str) : repS x 1 = x := by cases x; simp [repS]
theorem op_rep_str : OpR X (binaryOp .Mult) (fun x y H Q => ∃ (z : Str) (n : Nat), x = .str z ∧ y = .int n ∧ z.length * n ≤ 16777216 ∧ n ≤ 16777216 ∧ Q (.str (repS z n)) H) := by
  intro pins s σ H x y v u Q I r1 r2 h
  obtain ⟨z, n, e1, e2, hz, hn, q⟩ := h
  subst e1; subst e2
  obtain ⟨t, rfl⟩ := r1
  obtain ⟨t', rfl⟩ := r2
  by_cases h0 : n = 0
  · subst h0
    exact P.mul_str_none (by omega) (by omega) ⟨.str Str.empty, H, I.tok _, ⟨_, rfl⟩, by rw [← repS_zero z]; exact q⟩
  · have hzl : z.length * n ≤ 16777216 := hz
    refine P.mul_str (by rw [decide_eq_false (show ¬ ((n : Int) < -(2 ^ 63)) by omega), decide_eq_false (show ¬ ((n : Int) ≥ 2 ^ 63) by omega)]; rfl) (fun _ _ => ?_) (fun _ _ => ?_) ?_
    · have h1 : (0 : Int) < n := by omega
      have h2 : (z.length : Int) * n ≤ 16777216 := by
        have h3 : ((z.length * n : Nat) : Int) ≤ ((16777216 : Nat) : Int) := Int.ofNat_le.mpr hzl
        rw [Int.natCast_mul] at h3
        exact h3
      have : (z.length : Int) ≤ (2 ^ 63 - 1) / n := by
        rw [Int.le_ediv_iff_mul_le h1]
        omega
      omega
    · unfold PySem.Builtin.Str.tooLong
      have e := sizeLine_eq
      simp only [Int.toNat_natCast, decide_eq_false_iff_not]
      omega
    · rw [if_neg (by omega)]
      by_cases h3 : ((n : Int) == 1 || z.length == 0) = true
      · rw [if_pos h3]
        refine ⟨.str z, H, I, ⟨t, rfl⟩, ?_⟩
        have : repS z n = z := by
          rcases Bool.or_eq_true _ _ ▸ h3 with h | h
          · have : n = 1 := by have := beq_iff_eq.mp h; omega
            rw [this, repS_one]
          · have h' : z.length = 0 := beq_iff_eq.mp h
            have hz0 : z.cps.toList = [] := by
              have : z.cps.size = 0 := h'
              exact List.eq_nil_of_length_eq_zero (by simpa using this)
            cases z with
            | mk c =>
              simp only at hz0
              simp only [repS, hz0]
              have : c = #[] := by apply Array.ext'; simpa using hz0
              rw [this]
              congr 1
              apply Array.ext'
              simp
        rw [← this]; exact q
      · rw [if_neg h3]
        refine ⟨?_, ⟨.str _, H, I.tok _, ⟨_, rfl⟩, ?_⟩⟩
        · rw [repS_fold]
          have e := sizeLine_eq
          simp only [Int.toNat_natCast, repS, Str.length]
          simp only [List.size_toArray, List.length_flatten, List.map_replicate, List.sum_replicate_nat, Array.length_toList]
          have : z.cps.size * n ≤ 16777216 := hzl
          rw [Nat.mul_comm]; omega
        · rw [repS_fold, Int.toNat_natCast]; exact q
/-! ### list(text) -/
def sgn (c : Nat) : Str := ⟨#[c]⟩
theorem vals_of_get : ∀ {xs : List V} {us : List Value}, xs.length = us.length → (∀ (i : Nat) (x : V) (u : Value), xs[i]? = some x → us[i]? = some u → RelV x u) → Vals xs us
  | [], [], _, _ => .nil
  | [], _ :: _, h, _ => by simp at h
  | _ :: _, [], h, _ => by simp at h
  | x :: xs, u :: us, h, f => .cons (f 0 x u rfl rfl) (vals_of_get (by simpa using h) fun i y w e1 e2 => f (i + 1) y w (by simpa using e1) (by simpa using e2))
theorem items_vals {x : Str} {acc : Array Value} (h : ItemsOf (SignAt x) acc x.cps.size) : Vals (x.cps.toList.map fun c => V.str (sgn c)) acc.toList := by
  refine vals_of_get (by simp [h.1]) fun i y w e1 e2 => ?_
  obtain ⟨c, u, hc, rfl⟩ := h.2 i w (by simpa using e2)
  rw [List.getElem?_map] at e1
  have e3 : x.cps.toList[i]? = some c := by simpa using hc
  rw [e3] at e1
  cases e1
  exact ⟨u, rfl⟩
theorem call_list_str (hc : X.calm = true) : CallR X (.type "list") (fun xs H Q => ∃ z : Str, xs = [.str z] ∧ z.length ≤ sizeLine ∧ ∀ l, H l = none → Q (.ref l) (upd H l (.lst (z.cps.toList.map fun c => .str (sgn c))))) := by
  intro pins s σ H xs us Q I r h
  obtain ⟨z, rfl, hz, q⟩ := h
  obtain ⟨u, rfl, ru⟩ := Vals.one r
  obtain ⟨t, rfl⟩ := ru
  refine PySem.call_list_str (I.ok.hd hc) z t (fun h' tk acc' c' hk hS hacc => ?_) hz
  have hv := items_vals hacc
  have hz' : (z.cps.toList.map fun c => V.str (sgn c)).length ≤ sizeLine := by rw [List.length_map, Array.length_toList]; exact hz
  have ob : ObjOk X.prog X.w (upd H s.heap.objs.size (.lst (z.cps.toList.map fun c => .str (sgn c)))) h' s.heap.objs.size (.lst (z.cps.toList.map fun c => .str (sgn c))) :=
    ⟨hz', acc'.toList, c', hv, by simpa using hS⟩
  exact ⟨.ref s.heap.objs.size, _, I.laid (t' := tk) hk (Nat.le_refl _) ob, rfl, q _ I.fresh⟩
/-! ### repr of data -/
theorem repr_bool_shown (b : Bool) : (PyData.bool b).shown = if b = true then Str.ofString "True" else Str.ofString "False" := by cases b <;> rfl
theorem call_reprS : CallR X (.builtin "repr") (fun xs H Q => (∃ b, xs = [.bl b] ∧ Q (.str (PyData.bool b).shown) H) ∨ (xs = [.non] ∧ Q (.str PyData.none.shown) H) ∨ (∃ z : Str, xs = [.str z] ∧ (PyData.str z).shown.length ≤ sizeLine ∧ Q (.str (PyData.str z).shown) H) ∨ ∃ i : Int, xs = [.int i] ∧ i.natAbs.log2 < 1920 ∧ Q (.str (PyData.int i).shown) H) := by
  intro pins s σ H xs us Q I r h
  rcases h with ⟨b, rfl, q⟩ | ⟨rfl, q⟩ | ⟨z, rfl, hz, q⟩ | ⟨i, rfl, hi, q⟩
  · obtain ⟨u, rfl, ru⟩ := Vals.one r
    cases ru
    exact P.repr_of_bool ⟨.str _, H, I.tok _, ⟨_, rfl⟩, by rw [← repr_bool_shown]; exact q⟩
  · obtain ⟨u, rfl, ru⟩ := Vals.one r
    cases ru
    exact P.repr_of_none ⟨.str _, H, I.tok _, ⟨_, rfl⟩, q⟩
  · obtain ⟨u, rfl, ru⟩ := Vals.one r
    obtain ⟨t, rfl⟩ := ru
    exact P.repr_of_str ⟨.str _, H, I.tok _, ⟨_, rfl⟩, q⟩ hz
  · obtain ⟨u, rfl, ru⟩ := Vals.one r
    obtain ⟨t, rfl⟩ := ru
    exact P.repr_of_int hi ⟨.str _, H, I.tok _, ⟨_, rfl⟩, q⟩
def NoDict : PyData → Prop := fun d => d.hasDict = false
theorem call_reprD (hu : X.A.units + 64 < cLine) (hg : X.A.guards = some []) : CallR X (.builtin "repr") (fun xs H Q => ∃ (a : Addr) (d : PyData), xs = [.ref a] ∧ Dp X.K H (.ref a) d ∧ d.showable = true ∧ d.hasDict = false ∧ d.depth ≤ 60 ∧ d.shown.length ≤ sizeLine ∧ Q (.str d.shown) H) := by
  intro pins s σ H xs us Q I r h
  obtain ⟨a, d, rfl, hd, h1, h2, h3, h4, q⟩ := h
  obtain ⟨u, rfl, ru⟩ := Vals.one r
  obtain ⟨as, r1⟩ := Dp.reads I d _ u hd ru
  cases ru
  exact repr_of_reads' r1 h1 (fun z => by rw [h2] at z; cases z) hg (by omega) (fun _ _ e => e) (fun h' u tk hk => ⟨.str _, H, I.kept (t' := tk) hk, ⟨_, rfl⟩, q⟩) h4
end
/-! ### walks of texts -/
theorem for_str {x : Str} {g : TG} {tb : TS} {D : Ends} {σ : L2.St} {H : Hp} (Pv : Nat → L2.St → Hp → Prop) (h0 : Pv 0 σ H)
    (hs : ∀ i c σ H, x.cps.toList[i]? = some c → Pv i σ H → g (.str (sgn c)) σ H fun σ2 H2 => tb { D with nx := Pv (i + 1), ct := Pv (i + 1), bk := D.nx } σ2 H2) (hd : ∀ σ H, Pv x.cps.toList.length σ H → D.nx σ H) :
    ∃ W : Nat → Nat → L2.St → Hp → Prop, (∃ m, W 0 m σ H) ∧ ∀ i m σ H, W i m σ H →
      ((Its x).stop i H ∧ D.nx σ H) ∨ ((Its x).go i H ∧ ∃ N : L2.St → Hp → Prop, (∀ σ' H', N σ' H' → ∃ m', m' < m ∧ W (i + 1) m' σ' H') ∧ ∀ x' H', (Its x).yld i H x' H' → g x' σ H' fun σ2 H2 => tb { D with nx := N, ct := N, bk := D.nx } σ2 H2) := by
  refine ⟨fun i m σ H => m = x.cps.toList.length - i ∧ i ≤ x.cps.toList.length ∧ Pv i σ H, ⟨_, rfl, Nat.zero_le _, h0⟩, ?_⟩
  rintro i m σ H ⟨rfl, hi, p⟩
  by_cases hlt : i < x.cps.toList.length
  · refine .inr ⟨by simpa [Its] using hlt, Pv (i + 1), fun σ' H' q => ⟨_, by omega, rfl, hlt, q⟩, ?_⟩
    rintro x' H' ⟨e, c, hc, rfl⟩
    subst e
    exact hs i c σ _ (by simpa using hc) p
  · have e : i = x.cps.toList.length := by omega
    subst e
    exact .inl ⟨by simp [Its], hd σ H p⟩
theorem lc_str {x : Str} {g : TG} {tt : TT} {te : TE} {vs : List Nat} {σ : L2.St} {H1 : Hp} {D : Addr} {Qd : Hp → Prop} (Pv : Nat → Hp → Prop) (h0 : Pv 0 (upd H1 D (.lst [])))
    (hs : ∀ i c H, x.cps.toList[i]? = some c → Pv i H → g (.str (sgn c)) (wipe σ vs) H fun σ2 H2 => wipe σ2 vs = wipe σ vs ∧ tt σ2 H2 fun b H3 =>
      if b = true then te σ2 H3 fun y H4 => ∃ acc, H4 D = some (.lst acc) ∧ acc.length < sizeLine ∧ Pv (i + 1) (upd H4 D (.lst (acc ++ [y]))) else Pv (i + 1) H3) (hd : ∀ H, Pv x.cps.toList.length H → Qd H) :
    ∃ W : Nat → Nat → Hp → Prop, (∃ m, W 0 m (upd H1 D (.lst []))) ∧ ∀ i m H, W i m H →
      ((Its x).stop i H ∧ Qd H) ∨ ((Its x).go i H ∧ ∃ Nx : Hp → Prop, (∀ H', Nx H' → ∃ m', m' < m ∧ W (i + 1) m' H') ∧ ∀ x' H', (Its x).yld i H x' H' → g x' (wipe σ vs) H' fun σ2 H2 => wipe σ2 vs = wipe σ vs ∧ tt σ2 H2 fun b H3 =>
        if b = true then te σ2 H3 fun y H4 => ∃ acc, H4 D = some (.lst acc) ∧ acc.length < sizeLine ∧ Nx (upd H4 D (.lst (acc ++ [y]))) else Nx H3) := by
  refine ⟨fun i m H => m = x.cps.toList.length - i ∧ i ≤ x.cps.toList.length ∧ Pv i H, ⟨_, rfl, Nat.zero_le _, h0⟩, ?_⟩
  rintro i m H ⟨rfl, hi, p⟩
  by_cases hlt : i < x.cps.toList.length
  · refine .inr ⟨by simpa [Its] using hlt, Pv (i + 1), fun H' q => ⟨_, by omega, rfl, hlt, q⟩, ?_⟩
    rintro x' H' ⟨e, c, hc, rfl⟩
    subst e
    exact hs i c _ (by simpa using hc) p
  · have e : i = x.cps.toList.length := by omega
    subst e
    exact .inl ⟨by simp [Its], hd H p⟩
/-! ### enumerate(text) -/
def IteS (x : Str) : It :=
  ⟨fun i _ => i < x.cps.size, fun i H v H' => ∃ T c, v = .ref T ∧ H T = none ∧ H' = upd H T (.tup [.int (i : Nat), .str (sgn c)]) ∧ x.cps.toList[i]? = some c, fun i _ => x.cps.size = i⟩
theorem draws_str {prog : Program} {w : World} {A : Around} (hh : A.handled = none) (it : Addr) (x : Str) (t : Tok) : Draws prog w A it [it] x.cps.size (SignAt x) (fun i h => h.IsStrIter it (strIterType x) x t i) := by
  unfold strIterType
  split
  · exact Draws.strAscii hh it x t
  · exact Draws.strWide hh it x t
theorem turn_enumS {P : Program} {w : World} {K : PySem.W.Frag} {elts : List Expr} {kk : Nat} {tpos : Pos} (x : Str) (t : Tok) (e it : Addr) :
    Turn P w K (.Tuple elts kk tpos) (IteS x) [e, it] e (fun i h => (∃ old, IsEnum h e it ((i : Nat) : Int) old) ∧ h.IsStrIter it (strIterType x) x t i ∧ e ≠ it) where
  mem := by simp
  obj := fun i h st b hb => by
    obtain ⟨⟨old, he⟩, ⟨o, ho, hc, hd⟩, _⟩ := st
    rcases (by simpa using hb : b = e ∨ b = it) with z | z
    · rw [z]; exact ⟨_, he, fun v q => nomatch q⟩
    · rw [z]; exact ⟨o, ho, fun v q => by rw [hd] at q; cases q⟩
  keep := fun i h h' st k => by
    obtain ⟨⟨old, he⟩, ⟨o, ho, hc, hd⟩, hne⟩ := st
    exact ⟨⟨old, k e (by simp) _ he⟩, ⟨o, k it (by simp) _ ho, hc, hd⟩, hne⟩
  item := by
    intro X hP hw hK hc i pins s σ H E I hf st hg
    subst hP hw hK
    obtain ⟨⟨old, he⟩, hit, hne⟩ := st
    have hel : e < s.heap.objs.size := Heap.lt_size he
    have hil : it < s.heap.objs.size := by obtain ⟨_, q, _⟩ := hit; exact Heap.lt_size q
    refine wpAny_pyNext_enum_itemD (draws_str (by exact I.ok.hd hc) it x t) he hit hg hne (by simpa using hne) fun u h' tk hu ho hit' hT hsz hk => ?_
    obtain ⟨c, tu, hcx, rfl⟩ := hu
    refine ⟨_, rfl, wpAny_letOwnedTupleGo_enum (s := { s with heap := h', toks := tk + 1 }) ho fun h'' he' sb => ?_⟩
    have hT2 : h''.get? s.heap.objs.size = some { cls := .type "tuple", data := .seq #[.int i tk, .str (sgn c) tu] } := (sb.2 _ (Nat.ne_of_gt hel)).trans hT
    have new : ObjOk X.prog X.w (upd H s.heap.objs.size (.tup [.int (i : Nat), .str (sgn c)])) h'' s.heap.objs.size (.tup [.int (i : Nat), .str (sgn c)]) :=
      ⟨by show 2 ≤ sizeLine; decide, [.int i tk, .str (sgn c) tu], .cons ⟨_, rfl⟩ (.cons ⟨_, rfl⟩ .nil), ⟨_, hT2, rfl, _, rfl⟩⟩
    have I1 : Inv X pins σ (upd H s.heap.objs.size (.tup [.int (i : Nat), .str (sgn c)])) { s with heap := h'', toks := tk + 1 } :=
      I.turnedNew (ch := [e, it]) (fun b ob hb q => (sb.2 b (fun z => hb (by simp [z]))).trans (hk b ob (fun z => hb (by simp [z])) (fun z => hb (by simp [z])) q)) hf (Nat.le_refl _) new
    refine ⟨.ref s.heap.objs.size, _, I1, rfl, ⟨_, c, rfl, I.hok.fresh (Nat.le_refl _), rfl, by simpa using hcx⟩, ⟨⟨.str (sgn c) tu, ?_⟩, ?_, hne⟩, fun b hb => ?_⟩
    · have e1 : ((i + 1 : Nat) : Int) = (i : Int) + 1 := by omega
      rw [e1]; exact he'
    · obtain ⟨o, q1, q2, q3⟩ := hit'
      exact ⟨o, (sb.2 it (Ne.symm hne)).trans q1, q2, q3⟩
    · have hb' : b < s.heap.objs.size := by
        rcases (by simpa using hb : b = e ∨ b = it) with z | z
        · rw [z]; exact hel
        · rw [z]; exact hil
      rw [upd_ne (Nat.ne_of_lt hb')]
      exact (hf b hb).1
  done := by
    intro X hP hw hK hc i pins s σ H E I hf st hg
    subst hP hw hK
    obtain ⟨⟨old, he⟩, hit, hne⟩ := st
    obtain ⟨f0, f1, f2, f3, f4, f5⟩ := hf it (by simp)
    have hg' : x.cps.size = i := hg
    subst hg'
    exact wpAny_pyNext_enum_endD (draws_str (by exact I.ok.hd hc) it x t) he hit fun h' eb => ⟨rfl, I.turned (t' := s.toks) (fun b o hb q => eb b o hb q) f0 f1 f3 f4 f5⟩
  self := fun A i s Q E st h => let ⟨⟨_, he⟩, _⟩ := st; wpAny_pyIter_enum he h
def iEnumS (ta : TA) : TI := fun σ H R => ta σ H fun vs H1 => ∃ x, vs = [.str x] ∧ R (IteS x) H1
theorem pi_enumS {X : Cx} {e : Expr} {ta : TA} {p pos tpos : Pos} {elts : List Expr} {kk : Nat} (hg : Gl X "enumerate") (hm : X.mg "enumerate" = none) (ha : PA X [e] ta) (hs : starEach [e] X.env = [(false, eval e X.env)] := by rfl) :
    PI X (.Tuple elts kk tpos) (.Call (.Name "enumerate" p) [e] [] pos) (iEnumS ta) := by
  refine ⟨fun pins s σ H R I h => ?_⟩
  refine Call_ (ld_blt I hg hm boot_enumerate (PyProof.Rows.callWith_type1 (thn (ha.run pos pins s σ H _ I h) fun us s1 ⟨vs, H1, I1, r1, q1⟩ => ?_) hs rfl))
  obtain ⟨x, ex, q⟩ := q1
  subst ex
  obtain ⟨u, rfl, ru⟩ := Vals.one r1
  obtain ⟨t, rfl⟩ := ru
  refine call_enumerate_str fun h' he hit hsz hk => wpAny_pyIter_enum he ?_
  have I2 : Inv X pins σ H1 { s1 with heap := h' } := I1.kept (t' := s1.toks) hk
  refine ⟨s1.heap.objs.size + 1, [s1.heap.objs.size + 1, s1.heap.objs.size], _, _, H1, rfl, I2, turn_enumS x t (s1.heap.objs.size + 1) s1.heap.objs.size, ⟨⟨.none, he⟩, hit, Nat.succ_ne_self _⟩, fun b hb => ?_, q⟩
  have hle : s1.heap.objs.size ≤ b := by
    rcases (by simpa using hb : b = s1.heap.objs.size + 1 ∨ b = s1.heap.objs.size) with z | z
    · rw [z]; exact Nat.le_add_right _ _
    · rw [z]; exact Nat.le_refl _
  exact I1.fpOk hle (I1.hok.fresh hle)
theorem for_enumS {x : Str} {g : TG} {tb : TS} {D : Ends} {σ : L2.St} {H : Hp} (Pv : Nat → L2.St → Hp → Prop) (h0 : Pv 0 σ H)
    (hs : ∀ i c T σ H, x.cps.toList[i]? = some c → Pv i σ H → H T = none → g (.ref T) σ (upd H T (.tup [.int (i : Nat), .str (sgn c)])) fun σ2 H2 => tb { D with nx := Pv (i + 1), ct := Pv (i + 1), bk := D.nx } σ2 H2) (hd : ∀ σ H, Pv x.cps.toList.length σ H → D.nx σ H) :
    ∃ W : Nat → Nat → L2.St → Hp → Prop, (∃ m, W 0 m σ H) ∧ ∀ i m σ H, W i m σ H →
      ((IteS x).stop i H ∧ D.nx σ H) ∨ ((IteS x).go i H ∧ ∃ N : L2.St → Hp → Prop, (∀ σ' H', N σ' H' → ∃ m', m' < m ∧ W (i + 1) m' σ' H') ∧ ∀ x' H', (IteS x).yld i H x' H' → g x' σ H' fun σ2 H2 => tb { D with nx := N, ct := N, bk := D.nx } σ2 H2) := by
  refine ⟨fun i m σ H => m = x.cps.toList.length - i ∧ i ≤ x.cps.toList.length ∧ Pv i σ H, ⟨_, rfl, Nat.zero_le _, h0⟩, ?_⟩
  rintro i m σ H ⟨rfl, hi, p⟩
  by_cases hlt : i < x.cps.toList.length
  · refine .inr ⟨by simpa [IteS] using hlt, Pv (i + 1), fun σ' H' q => ⟨_, by omega, rfl, hlt, q⟩, ?_⟩
    rintro x' H' ⟨T, c, rfl, hT, rfl, hc⟩
    exact hs i c T σ H hc p hT
  · have e : i = x.cps.toList.length := by omega
    subst e
    exact .inl ⟨by simp [IteS], hd σ H p⟩
/-! ### promises that may lean on no guard being up (repr of lists asks it) -/
section
variable {CXc : CXT} {P : Program} {w : World} {K : PySem.W.Frag} {mg : Str → Option Value} {base : Heap} {k : Nat} {f : Addr} {fd : FuncData} {ps : List Str} {sp : Sp}
structure FnG (P : Program) (w : World) (K : PySem.W.Frag) (mg : Str → Option Value) (base : Heap) (CXc : CXT) (k : Nat) (f : Addr) (fd : FuncData) (ps : List Str) (sp : Sp) : Prop where
  len : ∀ vs H Q E, sp vs H Q E → vs.length = ps.length
  run : ∀ (A : Around) (outer : List Env) (s : Shared) (H : Hp) (args : Args) (us : List Value) (vs : List V) (Q : VK) (E : XK), A.guards = some [] → Room k A → Env0 P w K mg base A outer s H →
    BindsTo s fd args (ps.zip us) → Vals vs us → sp vs H Q E → codeAny (model P w) A (.call (.ref f) args) (CR CXc outer P w H s Q E) s
theorem FnG.of (F : FnOk P w K mg base CXc k f fd ps sp) : FnG P w K mg base CXc k f fd ps sp := ⟨F.len, fun A outer s H args us vs Q E _ => F.run A outer s H args us vs Q E⟩
theorem fn_ofG {name qual : Str} {params : Arguments} {body : List Stmt} {scope : Scope} {dV kV doc pm cdv ct oc : Value} {an od : Option Addr} {osl : Array (Option Value)} {N : List Str}
    (lk : K.lookup f = some ⟨oc, od, .func (PySem.W.fnOf name qual params body scope dV kV doc pm an cdv ct), osl⟩) (hcd : PySem.W.codeIn K cdv qual = true) (S : FnScope N ps scope)
    (len : ∀ vs H Q E, sp vs H Q E → vs.length = ps.length)
    (hbody : ∀ (A : Around) (outer : List Env) (s : Shared) (H : Hp) (vs : List V) (Q : VK) (E : XK), A.guards = some [] → Room k (A.deeper (envOfC qual scope s.heap.objs.size f cdv)) → sp vs H Q E →
      ∃ t, PSs (cxOf CXc P w K mg base N qual scope f cdv A outer s H E) body t ∧ t { nx := fun _ H' => Q .non H', rt := Q } (L2.start N vs) H) :
    FnG P w K mg base CXc (k + 1) f (PySem.W.fnOf name qual params body scope dV kV doc pm an cdv ct) ps sp := by
  constructor
  · exact len
  intro A outer s H args us vs Q E hga hr e0 hb r hsp
  have keepB : ∀ b o, base.get? b = some o → s.heap.get? b = some o := fun b o e => (e0.bs b o e).1
  have KX := e0.mod.kin.keeps keepB
  have lim := e0.mod.nolimit.keeps keepB
  have hk : ∀ y ∈ ps.zip us, scope.names.lookup y.1 = some .local ∨ (scope.names.lookup y.1 = some .cell ∧ ((cellsFrom (s.heap.objs.size + 1) scope.names []).lookup y.1).isSome = true) := by
    rintro ⟨n, v⟩ hy
    rcases S.par n (List.of_mem_zip hy).1 with q | q
    · left; exact q
    · right; exact ⟨q, PySem.W.cellsFrom_some _ _ _ (.inl q)⟩
  refine codeAny_call_function hr.depth (KX _ _ lk) rfl S.co S.gen rfl (PySem.W.codeRec_of KX hcd) (hb _ _ _ _ (wpAny_newFunctionEnv_cells S.kind hk fun env he s1 x => ?_))
  subst he
  refine ⟨lim.keeps x.toInCall.keep, codeAny_func ?_⟩
  obtain ⟨t, ht, hq⟩ := hbody A outer s H vs Q E hga (hr.deeper _) hsp
  have I := inv_start (CX := CXc) (P := P) (w := w) (E := E) S hr.hd e0 (len _ _ _ _ hsp) r x
  refine wpAny_mono (ht.run [] s1 (L2.start N vs) H _ I hq) (fun fl s' hs => ?_) (fun e s' hs => hs)
  match fl, hs with
  | .ret u, ⟨v, σ', H', J, rv, q⟩ => exact ⟨v, H', J.os, J.bare, J.base, J.hok, rv, q⟩
  | .next, ⟨σ', H', J, q⟩ => exact ⟨V.non, H', J.os, J.bare, J.base, J.hok, rfl, q⟩
  | .brk, ⟨_, _, _, q⟩ => exact False.elim q
  | .cont, ⟨_, _, _, q⟩ => exact False.elim q
theorem Fun.okG {x qual : Str} {st : Stmt} {N : List Str} (F : Fun K x qual st f fd) (S : FnScope N ps (defScope st)) (len : ∀ vs H Q E, sp vs H Q E → vs.length = ps.length)
    (hbody : ∀ (cdv : Value) (A : Around) (outer : List Env) (s : Shared) (H : Hp) (vs : List V) (Q : VK) (E : XK), (A.deeper (envOfC qual (defScope st) s.heap.objs.size f cdv)).guards = some [] → Room k (A.deeper (envOfC qual (defScope st) s.heap.objs.size f cdv)) → sp vs H Q E →
      ∃ t, PSs (cxOf CX0 P w K mg base N qual (defScope st) f cdv A outer s H E).nox (defBody st) t ∧ t { nx := fun _ H' => Q .non H', rt := Q } (L2.start N vs) H) : FnG P w K mg base CX0 (k + 1) f fd ps sp := by
  obtain ⟨oc, od, kV, doc, pm, an, cdv, ct, osl, rfl, lk, hcd⟩ := F.ex
  refine fn_ofG lk hcd S len fun A outer s H vs Q E hga hr hsp => ?_
  obtain ⟨t, h, q⟩ := hbody cdv A outer s H vs Q E hga hr hsp
  exact ⟨t, h.nox, q⟩
end
section
variable {X : Cx} {CXc : CXT} {k : Nat} {f : Addr} {fd : FuncData} {ps : List Str} {sp : Sp} {E : XK} {x : Str} {p pos : Pos} {e : Expr} {es : List Expr} {t : TA}
theorem run_fnG {pins : List (Addr × Obj)} {σ : L2.St} {H : Hp} {s : Shared} {Q : VK} {us : List Value} {vs : List V} (F : FnG X.prog X.w X.K X.mg X.base CXc k f fd ps sp) (hga : X.A.guards = some []) (hr : Room k X.A) (hb : Binds X.K fd ps []) (hx : Passes CXc X E)
    (I : Inv X pins σ H s) (r : Vals vs us) (h : sp vs H Q E) : wpAny (model X.prog X.w) X.A (call (.ref f) us) (EP X pins σ Q) X.xe s := by
  have hl : (us ++ []).length = ps.length := by
    rw [List.append_nil, ← r.length]
    exact F.len _ _ _ _ h
  have hb' := hb s us I.kIn hl
  rw [List.append_nil] at hb'
  refine wpAny_call (codeAny_mono (F.run X.A X.stack s H ⟨us, []⟩ us vs Q E hga hr I.env0 hb' r h) fun r s' hq => ?_)
  match r, hq with
  | .error e, hq => exact hx pins σ H s e s' I hq
  | .ok (.ret u), hq => exact I.after hq
theorem pe_callG (F : FnG X.prog X.w X.K X.mg X.base CXc k f fd ps sp) (hga : X.A.guards = some []) (hr : Room k X.A) (hg : Gl X x) (hm : X.mg x = some (.ref f)) (hk : PySem.W.keepIn X.K (.ref f) = true) (hb : Binds X.K fd ps []) (hx : Passes CXc X E)
    (ha : PA X (e :: es) t) (hdb : (x == ("__debug__" : Str)) = false := by decide) (he : starEach (e :: es) X.env = (false, eval e X.env) :: starEach es X.env := by rfl) (hpl : (backTo pos (starEach es X.env)).any (·.1) = false := by rfl) :
    PE X (.Call (.Name x p) (e :: es) [] pos) (tCall sp [] E t) := by
  constructor
  intro pins s σ H Q I h
  refine wpAny_Call_Name_kw (ld_glob I hg hm (PySem.W.callWith_K (h₀ := X.base) I.ok.mod.kin hk (thn (ha.run pos pins s σ H _ I h) ?_) he hpl) hdb)
  rintro us s1 ⟨vs, H1, I1, r, q⟩
  rw [List.append_nil] at q
  exact ⟨I1.kIn, run_fnG F hga hr hb hx I1 r q⟩
end
/-! ### rules by a written K (within a comprehension's block the reading must not name the block) -/
section
variable {X : Cx} {K : PySem.W.Frag}
theorem op_inK (hK : X.K = K := by rfl) : OpR X (compareOp .In) (rIn K false) := hK ▸ op_in_seq
theorem op_notInK (hK : X.K = K := by rfl) : OpR X (compareOp .NotIn) (rIn K true) := hK ▸ op_notIn_seq
theorem ix_listK (hK : X.K = K := by rfl) : IxR X (rIxL K) := hK ▸ ix_list
theorem ix_tupK (hK : X.K = K := by rfl) : IxR X (rIxT K) := hK ▸ ix_tup
theorem ix_seqK (hK : X.K = K := by rfl) : IxR X (rIx K) := hK ▸ ix_seq
theorem sl_listK (hK : X.K = K := by rfl) : SlR X (rSlL K) := hK ▸ sl_list
theorem sl_tupK (hK : X.K = K := by rfl) : SlR X (rSlA K) := hK ▸ sl_tupA
theorem len_seqK (hK : X.K = K := by rfl) : CallR X (.builtin "len") (rLenS K) := hK ▸ call_len_seq
theorem list_ofK (hK : X.K = K := by rfl) : CallR X (.type "list") (rListS K) := hK ▸ call_list_of
def rTupOf (K : PySem.W.Frag) : List V → Hp → VK → Prop := fun xs H Q => ∃ p ys, xs = [.ref p] ∧ ((SqL K H p ys ∧ ∀ l, H l = none → Q (.ref l) (upd H l (.tup ys))) ∨ (SqT K H p ys ∧ Q (.ref p) H))
theorem tuple_ofK (hK : X.K = K := by rfl) : CallR X (.type "tuple") (rTupOf K) := hK ▸ call_tuple_of
theorem allK (hc : X.calm = true) (hK : X.K = K := by rfl) : CallR X (.builtin "all") (rAll K) := hK ▸ cr_all hc
theorem anyK (hc : X.calm = true) (hK : X.K = K := by rfl) : CallR X (.builtin "any") (rAny K) := hK ▸ cr_any hc
theorem isiK (hK : X.K = K := by rfl) : CallR X (.builtin "isinstance") (rIsi K) := hK ▸ call_isi
theorem sortedSK (hK : X.K = K := by rfl) : CallR X (.builtin "sorted") (rSortedS K) := hK ▸ cr_sortedS
theorem eqDK (hu : X.A.units + 64 < cLine) (hK : X.K = K := by rfl) : OpR X (compareOp .Eq) (rEqD K) := hK ▸ op_eqD hu
theorem neDK (hu : X.A.units + 64 < cLine) (hK : X.K = K := by rfl) : OpR X (compareOp .NotEq) (rNeD K) := hK ▸ op_neD hu
def rJoin (K : PySem.W.Frag) : V → List V → Hp → VK → Prop := fun x xs H Q => ∃ a p, ∃ ys : List Str, x = .str a ∧ xs = [.ref p] ∧ (SqL K H p (ys.map V.str) ∨ SqT K H p (ys.map V.str)) ∧
  (ys.map (·.length)).sum + ys.length * a.length ≤ 16777216 ∧ Q (.str (Txt.join a ys)) H
theorem joinK (hK : X.K = K := by rfl) : MtR X "str.join" (rJoin K) := hK ▸ mt_join
theorem pi_listK {tg l : Expr} {t : TE} (h : PE X l t) (hK : X.K = K := by rfl) : PI X tg l (iList K t) := hK ▸ pi_list h
theorem pi_tupK {tg l : Expr} {t : TE} (h : PE X l t) (hK : X.K = K := by rfl) : PI X tg l (iTup K t) := hK ▸ pi_tup h
/-- what a call's written arguments must be for a method's quick road -/
abbrev Few (X : Cx) (e : Expr) (es : List Expr) (cpos : Pos) : Prop :=
  ((backTo cpos (starEach (e :: es) X.env)).all (fun x => !x.1) && (backToKw cpos (keywordEach [] X.env)).all (fun x => x.1.isSome) &&
    decide ((e :: es).length + ([] : List Keyword).length + (if ([] : List Keyword).isEmpty then 0 else 1) < 30)) = true
theorem pe_bmK {o e : Expr} {es : List Expr} {to : TE} {t : TA} {name : Str} {apos cpos : Pos} {T id : String} {r : V → List V → Hp → VK → Prop} (pa : PlainAttrs T) (slot : Slot T name id)
    (hty : typeOf (.builtin id) = pure (.type "method_descriptor")) (hm : MtR X id r) (ho : PE X o to) (ha : PA X (e :: es) t) (h1 : attributeBase o name X.env (eval o X.env) = eval o X.env := by rfl) (h2 : Few X e es cpos := by rfl)
    (h3 : (apos.endLine == cpos.line) = true := by rfl) (h4 : starEach (e :: es) X.env = (false, eval e X.env) :: starEach es X.env := by rfl) (h5 : (backTo cpos (starEach es X.env)).any (·.1) = false := by rfl) (hK : X.K = K := by rfl) :
    PE X (.Call (.Attribute o name apos) (e :: es) [] cpos) (tBM K T r to t) := by
  subst hK
  exact pe_bm pa slot hty hm ho ha h1 h2 h3 h4 h5
theorem pe_bm0K {o : Expr} {to : TE} {name : Str} {apos cpos : Pos} {T id : String} {r : V → List V → Hp → VK → Prop} (pa : PlainAttrs T) (slot : Slot T name id)
    (hty : typeOf (.builtin id) = pure (.type "method_descriptor")) (hm : MtR X id r) (ho : PE X o to) (h1 : attributeBase o name X.env (eval o X.env) = eval o X.env := by rfl)
    (h3 : (apos.endLine == cpos.line) = true := by rfl) (hK : X.K = K := by rfl) : PE X (.Call (.Attribute o name apos) [] [] cpos) (tBM0 K T r to) := by
  subst hK
  exact pe_bm0 pa slot hty hm ho h1 h3
end
/-! ### walks told by the list of their items -/
/-- while I holds J gives the items xs, one after the other -/
structure Feeds (I : Hp → Prop) (J : It) (xs : List V) : Prop where
  go : ∀ i H, I H → i < xs.length → J.go i H
  yld : ∀ i H x H', I H → i < xs.length → J.yld i H x H' → H' = H ∧ xs[i]? = some x
  stop : ∀ i H, I H → i = xs.length → J.stop i H
theorem feeds_str (x : Str) : Feeds (fun _ => True) (Its x) (x.cps.toList.map fun c => V.str (sgn c)) where
  go := fun i H _ h => by simpa [Its] using h
  yld := fun i H v H' _ _ h => by
    obtain ⟨e, c, hc, rfl⟩ := h
    have hc' : x.cps.toList[i]? = some c := by simpa using hc
    exact ⟨e, by rw [List.getElem?_map, hc']; rfl⟩
  stop := fun i H _ h => by rw [h]; simp [Its]
theorem feeds_range (lo : Int) (n : Nat) : Feeds (fun _ => True) (Itr lo n) ((List.range n).map fun i => V.int (lo + (i : Nat))) where
  go := fun i H _ h => by simpa [Itr] using h
  yld := fun i H v H' _ hi h => by
    obtain ⟨e, rfl⟩ := h
    rw [List.length_map, List.length_range] at hi
    exact ⟨e, by rw [List.getElem?_map, List.getElem?_range hi]; rfl⟩
  stop := fun i H _ h => by rw [h]; simp [Itr]
theorem feeds_list (K : PySem.W.Frag) (a : Addr) (xs : List V) : Feeds (fun H => SqL K H a xs) (Itl K a) xs where
  go := fun i H h hi => ⟨xs, xs[i], h, List.getElem?_eq_getElem hi⟩
  yld := fun i H v H' h hi z => ⟨z.1, z.2 xs h⟩
  stop := fun i H h hi => ⟨xs, h, Nat.le_of_eq hi.symm⟩
theorem feeds_tup (K : PySem.W.Frag) (a : Addr) (xs : List V) : Feeds (fun H => SqT K H a xs) (Itt K a) xs where
  go := fun i H h hi => ⟨xs, xs[i], h, List.getElem?_eq_getElem hi⟩
  yld := fun i H v H' h hi z => ⟨z.1, z.2 xs h⟩
  stop := fun i H h hi => ⟨xs, h, Nat.le_of_eq hi.symm⟩
/-- a for over such a walk -/
theorem for_of {I : Hp → Prop} {J : It} {xs : List V} {g : TG} {tb : TS} {D : Ends} {σ : L2.St} {H : Hp} (F : Feeds I J xs) (Pv : Nat → L2.St → Hp → Prop) (h0 : Pv 0 σ H) (hI : ∀ i σ H, Pv i σ H → I H)
    (hs : ∀ i x σ H, xs[i]? = some x → Pv i σ H → g x σ H fun σ2 H2 => tb { D with nx := Pv (i + 1), ct := Pv (i + 1), bk := D.nx } σ2 H2) (hd : ∀ σ H, Pv xs.length σ H → D.nx σ H) :
    ∃ W : Nat → Nat → L2.St → Hp → Prop, (∃ m, W 0 m σ H) ∧ ∀ i m σ H, W i m σ H →
      (J.stop i H ∧ D.nx σ H) ∨ (J.go i H ∧ ∃ N : L2.St → Hp → Prop, (∀ σ' H', N σ' H' → ∃ m', m' < m ∧ W (i + 1) m' σ' H') ∧ ∀ x' H', J.yld i H x' H' → g x' σ H' fun σ2 H2 => tb { D with nx := N, ct := N, bk := D.nx } σ2 H2) := by
  refine ⟨fun i m σ H => m = xs.length - i ∧ i ≤ xs.length ∧ Pv i σ H, ⟨_, rfl, Nat.zero_le _, h0⟩, ?_⟩
  rintro i m σ H ⟨rfl, hi, p⟩
  by_cases hlt : i < xs.length
  · refine .inr ⟨F.go i H (hI _ _ _ p) hlt, Pv (i + 1), fun σ' H' q => ⟨_, by omega, rfl, hlt, q⟩, fun x' H' hy => ?_⟩
    obtain ⟨e, hx⟩ := F.yld i H x' H' (hI _ _ _ p) hlt hy
    subst e
    exact hs i x' σ _ hx p
  · have e : i = xs.length := by omega
    subst e
    exact .inl ⟨F.stop _ H (hI _ _ _ p) rfl, hd σ H p⟩
/-- a comprehension without a test over such a walk, by an invariant -/
theorem lc_of {I : Hp → Prop} {J : It} {xs : List V} {g : TG} {tt : TT} {te : TE} {vs : List Nat} {σ : L2.St} {H1 : Hp} {D : Addr} {Qd : Hp → Prop} (F : Feeds I J xs) (Pv : Nat → Hp → Prop) (h0 : Pv 0 (upd H1 D (.lst []))) (hI : ∀ i H, Pv i H → I H)
    (hs : ∀ i x H, xs[i]? = some x → Pv i H → g x (wipe σ vs) H fun σ2 H2 => wipe σ2 vs = wipe σ vs ∧ tt σ2 H2 fun b H3 =>
      if b = true then te σ2 H3 fun y H4 => ∃ acc, H4 D = some (.lst acc) ∧ acc.length < sizeLine ∧ Pv (i + 1) (upd H4 D (.lst (acc ++ [y]))) else Pv (i + 1) H3) (hd : ∀ H, Pv xs.length H → Qd H) :
    ∃ W : Nat → Nat → Hp → Prop, (∃ m, W 0 m (upd H1 D (.lst []))) ∧ ∀ i m H, W i m H →
      (J.stop i H ∧ Qd H) ∨ (J.go i H ∧ ∃ Nx : Hp → Prop, (∀ H', Nx H' → ∃ m', m' < m ∧ W (i + 1) m' H') ∧ ∀ x' H', J.yld i H x' H' → g x' (wipe σ vs) H' fun σ2 H2 => wipe σ2 vs = wipe σ vs ∧ tt σ2 H2 fun b H3 =>
        if b = true then te σ2 H3 fun y H4 => ∃ acc, H4 D = some (.lst acc) ∧ acc.length < sizeLine ∧ Nx (upd H4 D (.lst (acc ++ [y]))) else Nx H3) := by
  refine ⟨fun i m H => m = xs.length - i ∧ i ≤ xs.length ∧ Pv i H, ⟨_, rfl, Nat.zero_le _, h0⟩, ?_⟩
  rintro i m H ⟨rfl, hi, p⟩
  by_cases hlt : i < xs.length
  · refine .inr ⟨F.go i H (hI _ _ p) hlt, Pv (i + 1), fun H' q => ⟨_, by omega, rfl, hlt, q⟩, fun x' H' hy => ?_⟩
    obtain ⟨e, hx⟩ := F.yld i H x' H' (hI _ _ p) hlt hy
    subst e
    exact hs i x' _ hx p
  · have e : i = xs.length := by omega
    subst e
    exact .inl ⟨F.stop _ H (hI _ _ p) rfl, hd H p⟩
theorem lt_get {α : Type} {l : List α} {i : Nat} {x : α} (h : l[i]? = some x) : i < l.length := (List.getElem?_eq_some_iff.mp h).1
theorem mem_get {α : Type} {l : List α} {i : Nat} {x : α} (h : l[i]? = some x) : x ∈ l := List.mem_of_getElem? h
theorem take_map {α β : Type} {l : List α} {i : Nat} {x : α} (F : α → β) (h : l[i]? = some x) : (l.take (i + 1)).map F = (l.take i).map F ++ [F x] := by
  rw [List.take_succ, h]
  simp
theorem sizeL {n : Nat} (h : n ≤ 1000000) : n ≤ sizeLine := by rw [sizeLine_eq]; omega
/-- .. by the values of its elements (which leave all that is tracked) -/
theorem lc_map {I : Hp → Prop} {J : It} {xs : List V} {te : TE} {i : Nat} {σ : L2.St} {H1 : Hp} {D : Addr} {Qd : Hp → Prop} (F : Feeds I J xs) (f : V → V) (hD : H1 D = none) (hI : ∀ H, Ex H1 H → I H) (hz : xs.length ≤ 1000000)
    (hte : ∀ x ∈ xs, ∀ (H2 : Hp) (Q2 : VK), Ex H1 H2 → (∀ H3, Ex H2 H3 → Q2 (f x) H3) → te ((σ.set i none).set i (some x)) H2 Q2)
    (hq : ∀ H', Ex H1 H' → H' D = some (.lst (xs.map f)) → Qd H') :
    ∃ W : Nat → Nat → Hp → Prop, (∃ m, W 0 m (upd H1 D (.lst []))) ∧ ∀ j m H, W j m H →
      (J.stop j H ∧ Qd H) ∨ (J.go j H ∧ ∃ Nx : Hp → Prop, (∀ H', Nx H' → ∃ m', m' < m ∧ W (j + 1) m' H') ∧ ∀ x' H', J.yld j H x' H' → gName i x' (wipe σ [i]) H' fun σ2 H2 => wipe σ2 [i] = wipe σ [i] ∧ tYes σ2 H2 fun b H3 =>
        if b = true then te σ2 H3 fun y H4 => ∃ acc, H4 D = some (.lst acc) ∧ acc.length < sizeLine ∧ Nx (upd H4 D (.lst (acc ++ [y]))) else Nx H3) := by
  refine lc_of F (fun j H => Ex H1 H ∧ H D = some (.lst ((xs.take j).map f))) ⟨Ex.new hD, upd_same⟩ (fun _ H h => hI H h.1) ?_ (fun H h => hq H h.1 (by rw [h.2, List.take_length]))
  rintro j x H hx ⟨e1, e2⟩
  refine ⟨by simp [wipe], ?_⟩
  refine hte x (mem_get hx) H _ e1 fun H3 e3 => ⟨_, e3 _ _ e2, ?_, ?_, ?_⟩
  · have := lt_get hx
    have := sizeL hz
    rw [List.length_map, List.length_take]
    omega
  · exact Ex.mut (e1.trans e3) hD
  · rw [upd_same, take_map _ hx]
section
variable {X : Cx} {K : PySem.W.Frag}
def rReprD (K : PySem.W.Frag) : List V → Hp → VK → Prop := fun xs H Q => ∃ (a : Addr) (d : PyData), xs = [.ref a] ∧ Dp K H (.ref a) d ∧ d.showable = true ∧ d.hasDict = false ∧ d.depth ≤ 60 ∧ d.shown.length ≤ sizeLine ∧ Q (.str d.shown) H
theorem reprDK (hu : X.A.units + 64 < cLine) (hg : X.A.guards = some []) (hK : X.K = K := by rfl) : CallR X (.builtin "repr") (rReprD K) := hK ▸ call_reprD hu hg
end
/-- a def that is never called keeps a promise that asks what cannot be -/
theorem fn_never {P : Program} {w : World} {K : PySem.W.Frag} {mg : Str → Option Value} {base : Heap} {CXc : CXT} {k : Nat} {f : Addr} {fd : FuncData} {ps : List Str} : FnOk P w K mg base CXc k f fd ps (fun _ _ _ _ => False) :=
  ⟨fun _ _ _ _ h => h.elim, fun _ _ _ _ _ _ _ _ _ _ _ _ _ h => h.elim⟩
end Lk
/-! ### the end of a law row over FnG -/
namespace Lk
open PySem PySem.Spec PyProof.Rows L2
/-- what is asked of the abstract heap at the law's entry: a alone may be tracked, as the script -/
structure Entry (K : PySem.W.Frag) (P : Program) (w : World) (H : Hp) (h : Heap) (a : Addr) (ns : List Int) : Prop where
  only : Only H
  seq : SqL K H a (ns.map V.int)
  ok : HOk P w H h
  just : ∀ b u, H b = some u → b = a
  kout : ∀ u, H a = some u → K.lookup a = none
theorem entry_of {K : PySem.W.Frag} {P : Program} {w : World} {h : Heap} {a : Addr} {vs : List Value} {ns : List Int} (KX : K.In h) (ha : h.get? a = some { cls := .type "list", data := .seq vs.toArray }) (hi : IntsAre vs ns) (hl : ns.length ≤ sizeLine) :
    ∃ H, Entry K P w H h a ns := by
  have rv := vals_ints hi
  cases hk : K.lookup a with
  | some o =>
    have e : some o = some _ := (KX a o hk).symm.trans ha
    cases e
    refine ⟨fun _ => none, fun _ => .inl rfl, .inr ⟨_, vs.toArray, _, hk, rfl, rfl, rfl, ?_, by simpa using rv⟩, (fun b u z => by cases z), (fun b u z => by cases z), (fun u z => by cases z)⟩
    rw [List.size_toArray, hi.length]; exact hl
  | none =>
    refine ⟨upd (fun _ => none) a (.frz { cls := .type "list", data := .seq vs.toArray } (.lst (ns.map V.int))), fun b => ?_, .inl (.inr ⟨_, upd_same⟩), fun b u z => ?_, fun b u z => ?_, fun _ _ => hk⟩
    · by_cases hb : b = a
      · right; rw [hb]; exact ⟨_, _, upd_same⟩
      · left; rw [upd_ne hb]
    · by_cases hb : b = a
      · subst hb
        rw [upd_same] at z
        cases z
        exact ⟨ha, by rw [List.length_map]; exact hl, vs, _, rv, ha⟩
      · rw [upd_ne hb] at z; cases z
    · by_cases hb : b = a
      · exact hb
      · rw [upd_ne hb] at z; cases z
theorem law_callG {P : Program} {w : World} {K : PySem.W.Frag} {mg mb : Str → Option Value} {k : Nat} {fa a : Addr} {fd : FuncData} {x : Str} {sp : Sp} {s₁ : Shared} {vs : List Value} {ns : List Int}
    (KX : K.In s₁.heap) (hns : s₁.heap.Ns mainGlobals mg) (hb : s₁.heap.Ns builtinsNs mb) (hbb : ∀ x : Str, x ≠ "__name__" → mb x = bootBuiltins x) (hlim : s₁.heap.NoLimit) (hg : s₁.gens = #[])
    (ha : s₁.heap.get? a = some { cls := .type "list", data := .seq vs.toArray }) (hi : IntsAre vs ns) (hl : ns.length ≤ sizeLine) (hr : Room k callerA)
    (F : ∀ base : Heap, K.In base → base.Ns mainGlobals mg → FnG P w K mg base CX0 k fa fd [x] sp) (hbind : ∀ (s : Shared) (u : Value), BindsTo s fd ⟨[u], []⟩ [(x, u)])
    (hsp : ∀ H : Hp, Only H → SqL K H a (ns.map V.int) → sp [.ref a] H (fun v _ => v = .bl true) fun _ _ _ => False) :
    codeAny (model P w) callerA (.call (.ref fa) ⟨[.ref a], []⟩) (fun r s' => r = .ok (.ret (.bool true)) ∧ OldK s₁.heap s'.heap ∧ s'.os = s₁.os ∧ AllBare s'.gens) s₁ := by
  obtain ⟨H, En⟩ := entry_of (P := P) (w := w) KX ha hi hl
  have noD : ∀ {b : Addr} {o : Obj} {es : Array DictEntry} {ep : Nat}, s₁.heap.get? b = some o → o.data = .dict es ep → H b = none := by
    intro b o es ep e d
    cases q : H b with
    | none => rfl
    | some u =>
      rw [En.just b u q, ha] at e
      cases e
      cases (show Data.seq vs.toArray _ = Data.dict es ep from d)
  have nsB : ∀ {b : Addr} {m : Str → Option Value}, s₁.heap.Ns b m → (hidT s₁.heap H).Ns b m := by
    rintro b m ⟨o, es, ep, e, d, r⟩
    exact ⟨o, es, ep, hidT_get e (noD e d), d, r⟩
  have kB : K.In (hidT s₁.heap H) := by
    intro b o e
    refine hidT_get (KX b o e) ?_
    cases q : H b with
    | none => rfl
    | some u =>
      have e1 := En.just b u q
      subst e1
      rw [En.kout u q] at e; cases e
  have hM : Mod K mg (hidT s₁.heap H) := by
    obtain ⟨mc, h1, h2⟩ := hlim
    exact ⟨kB, nsB hns, ⟨mb, nsB hb, hbb⟩, ⟨mc, nsB h1, h2⟩⟩
  have e0 : Env0 P w K mg (hidT s₁.heap H) callerA [] s₁ H :=
    ⟨rfl, hM, fun b o e => of_hidT e, Nat.le_of_eq (hidT_size _ _), trivial, fun b hb => (nomatch (show b ∈ ([] : List Addr) from hb)), En.ok, .of_eq hg⟩
  have run := (F _ kB (nsB hns)).run callerA [] s₁ H ⟨[.ref a], []⟩ [.ref a] [.ref a] _ _ rfl hr e0 (hbind s₁ (.ref a)) (.cons rfl .nil) (hsp H En.only En.seq)
  refine codeAny_mono run ?_
  intro r s' h
  match r, h with
  | .error e, h => exact h.elim
  | .ok (.ret u), ⟨v, H', os, bare, un, hok', r', q⟩ =>
    obtain rfl : v = .bl true := q
    obtain rfl : u = Value.bool true := r'
    refine ⟨rfl, OldK.of_keep fun b o e => ?_, os, bare⟩
    cases z : H b with
    | none => exact un.keep b o e z (by intro y; exact nomatch (show b ∈ ([] : List Addr) from y)) (by simp)
    | some u =>
      rcases En.only b with y | ⟨ob, xs, y⟩
      · rw [z] at y; cases y
      · have p1 := (En.ok b _ y).1
        have p2 := (hok' b _ (un.frzs b ob _ y)).1
        rw [p1] at e
        cases e
        exact p2
theorem walk_ofG {l : PySem.W.OpenLaw} {n k : Nat} {q : Program} {loose : List Str} {XP : (Str → Option Value) → Heap → Prop} {YP : World → Heap → Prop} {d : DefRec} {K : Params → PySem.W.Frag} {sp : World → Sp} {x : Str}
    (hn : l.most = some n) (hn2 : n ≤ sizeLine) (hdf : d.params.defaults = []) (hr : Room k callerA) (hY : ∀ (w : World) (h : Heap), YP w h → (K w.params).In h)
    (F : ∀ (w : World) (mg : Str → Option Value) (fa : Addr) (h : Heap), (K w.params).In h → h.Ns mainGlobals mg → mg d.name = some (.ref fa) →
      ∃ fd : FuncData, (∀ (s : Shared) (u : Value), BindsTo s fd ⟨[u], []⟩ [(x, u)]) ∧ ∀ base : Heap, (K w.params).In base → base.Ns mainGlobals mg → FnG l.prog w (K w.params) mg base CX0 k fa fd [x] (sp w))
    (hsp : ∀ (w : World) (H : Hp) (a : Addr) (ns : List Int), ns.length ≤ n → Only H → SqL (K w.params) H a (ns.map V.int) → sp w [.ref a] H (fun v _ => v = .bl true) fun _ _ _ => False) :
    PySem.W.WalkO q loose XP YP l.row.toRowW d [] (fun f vs => PySem.call f vs) := by
  refine Att.attach_call hn hdf ?_
  intro w s₀ s₁ mg mb fa o pm cd doc a vs ns G Y ho hd hcd hmg hobj hints hlen hg
  obtain ⟨fd, hb, hF⟩ := F w mg fa _ (hY w _ Y) G.T.g hmg
  exact law_callG (hY w _ Y) G.T.g G.T.b G.T.builtins G.T.nolimit hg hobj hints (Nat.le_trans hlen hn2) hr hF hb fun H hO hS => hsp w H a ns hlen hO hS
end Lk
/-! ### lambdas that are handed to a def of the law -/
namespace Lk
open PySem PySem.Spec PyProof.Rows L2 LamX
section
variable {P : Program} {w : World} {K : PySem.W.Frag} {mg : Str → Option Value} {base : Heap} {k : Nat} {f : Addr} {fd : FuncData} {ps : List Str} {sp : Sp}
/-- a def whose code object is known by its place -/
theorem Fun.okGC {c : Addr} {x qual : Str} {st : Stmt} {N : List Str} (F : Fun K x qual st f fd) (hc : fd.code = .ref c) (S : FnScope N ps (defScope st)) (len : ∀ vs H Q E, sp vs H Q E → vs.length = ps.length)
    (hbody : ∀ (A : Around) (outer : List Env) (s : Shared) (H : Hp) (vs : List V) (Q : VK) (E : XK), (A.deeper (envOfC qual (defScope st) s.heap.objs.size f (.ref c))).guards = some [] → Room k (A.deeper (envOfC qual (defScope st) s.heap.objs.size f (.ref c))) → sp vs H Q E →
      ∃ t, PSs (cxOf CX0 P w K mg base N qual (defScope st) f (.ref c) A outer s H E).nox (defBody st) t ∧ t { nx := fun _ H' => Q .non H', rt := Q } (L2.start N vs) H) : FnG P w K mg base CX0 (k + 1) f fd ps sp := by
  obtain ⟨oc, od, kV, doc, pm, an, cdv, ct, osl, rfl, lk, hcd⟩ := F.ex
  obtain rfl : cdv = .ref c := hc
  refine fn_ofG lk hcd S len fun A outer s H vs Q E hga hr hsp => ?_
  obtain ⟨t, h, q⟩ := hbody A outer s H vs Q E hga hr hsp
  exact ⟨t, h.nox, q⟩
end
section
variable {X : Cx}
/-- x(lambda: body), x a def of the text -/
theorem pe_lamF {T : List (Addr × Str)} {TT : (XK → Hp → VK → Prop) → Hp → VK → Prop} {x a q0 : Str} {st : Stmt} {g c P : Addr} {fd : FuncData} {k : Nat} {Ng : List Str} {params : Arguments} {body : Expr} {scope : Scope} {t : XK → TE} {p lpos pos : Pos}
    (F : Fun X.K x x st g fd) (hg : Gl X x) (hm : X.mg x = some (.ref g)) (hb : L2.Binds X.K fd [a] []) (Sg : FnScope Ng [a] (defScope st)) (hNg : Ng[0]? = some a) (hva : Vis (defScope st) a)
    (hq : X.env.qual = q0) (hG : ∀ cdv, GivesTo X Ng x (defScope st) g cdv (defBody st) a (q0 ++ "<lambda>") TT)
    (TB : TabB X.base X.mg c P) (hcode : X.env.code = .ref c) (hmT : (P, q0 ++ "<lambda>") ∈ T) (hu : ∀ p ∈ T, p.1 = P → p.2 = q0 ++ "<lambda>") (hr : Room (k + 2) X.A) (L : LamS X.env.scope scope) (hdef : defaultsOf params X.env = ([], []))
    (hbind : ∀ (q : Str) (cl : List (Str × Addr)) (pm cv ctv : Value), bindArgs (PySem.W.kla_fn "<lambda>" q params body scope cl pm cv ctv) ⟨[], []⟩ = pure [])
    (hbody : ∀ (A : Around) (outer : List Env) (s : Shared) (H : Hp) (E : XK) (f c' : Addr), Room k (A.deeper (lamEnv X scope s.heap.objs.size f c')) → PE (lamCx X A outer s H E scope f c') body (t E))
    (hdb : (x == ("__debug__" : Str)) = false := by decide) (hd : (a == ("__debug__" : Str)) = false := by decide) (hcd : (a == ("__classdict__" : Str)) = false := by decide) :
    PE X (.Call (.Name x p) [.Lambda params body scope lpos] [] pos) (tLam T TT t) := by
  obtain ⟨oc, od, kV, doc, pm, an, cdv, ct, osl, rfl, lk, hcg⟩ := F.ex
  subst hq
  exact pe_lamcall hg hm F.kp lk hcg hb Sg hNg hva (hG cdv) TB hcode hmT hu hr L hdef hbind hbody hdb hd hcd
/-- what a raising def lets out passes the lambda -/
theorem passLam {A : Around} {outer : List Env} {s : Shared} {H : Hp} {E : XK} {scope : Scope} {f c' : Addr} : Passes (L2.CX X.prog X.w) (lamCx X A outer s H E scope f c') E :=
  passes_call (takes_of rfl rfl rfl rfl) fun _ _ _ _ h => h
/-- try: a() / except e1: return r1 / except e2: return r2 / return r3 -/
def TWord (K : PySem.W.Frag) (C1 C2 : Addr) (r1 r2 r3 : Str) : (XK → Hp → VK → Prop) → Hp → VK → Prop := fun tl H Q =>
  tl (fun cls _ H' => ∃ b, PySem.W.exmOne K cls (.ref C1) = some b ∧ (b = true → Q (.str r1) H') ∧ (b = false → ∃ b2, PySem.W.exmOne K cls (.ref C2) = some b2 ∧ (b2 = true → Q (.str r2) H') ∧ (b2 = false → False))) H fun _ H' => Q (.str r3) H'
theorem word_gives {Ng : List Str} {x a e1 e2 q r1 r2 r3 : Str} {sg : Scope} {g C1 C2 : Addr} {cdg : Value} {j1 j2 j3 : Nat} {p1 p2 p3 p4 p5 p6 p7 p8 p9 p10 p11 p12 p13 p14 : Pos}
    (hg1 : sg.names.lookup e1 = some .globalImplicit) (hm1 : X.mg e1 = some (.ref C1)) (hg2 : sg.names.lookup e2 = some .globalImplicit) (hm2 : X.mg e2 = some (.ref C2)) (hd1 : (e1 == ("__debug__" : Str)) = false := by decide) (hd2 : (e2 == ("__debug__" : Str)) = false := by decide)
    (h0 : ∀ f : Addr, (L2.start Ng [V.ref f])[0]? = some (some (V.ref f))) :
    GivesTo X Ng x sg g cdg [.Try [.Expr (.Call (.Name a p1) [] [] p2) p3] [.ExceptHandler (some (.Name e1 p4)) none [.Return (some (.Constant (.str r1) j1 p5)) p6] p7, .ExceptHandler (some (.Name e2 p8)) none [.Return (some (.Constant (.str r2) j2 p9)) p10] p11] [] [] p12, .Return (some (.Constant (.str r3) j3 p13)) p14]
      a q (TWord X.K C1 C2 r1 r2 r3) := by
  intro f c' s H Q tl act hc h
  have n1 : Gl (cxOf C8.CX0 X.prog X.w X.K X.mg X.base Ng x sg g cdg X.A X.stack s H C8.E0).nox e1 := hg1
  have n2 : Gl (cxOf C8.CX0 X.prog X.w X.K X.mg X.base Ng x sg g cdg X.A X.stack s H C8.E0).nox e2 := hg2
  refine ⟨_, pss_cons (ps_try_many (X := (cxOf C8.CX0 X.prog X.w X.K X.mg X.base Ng x sg g cdg X.A X.stack s H C8.E0).nox)
      (tb := fun W D σ H => ∃ Ech : XK, (∀ cls d σ' H', Ech cls d H' → W cls d σ' H') ∧ σ[0]? = some (some (.ref f)) ∧ H c' = some (CodeO c' q) ∧ tl Ech H fun _ H' => D.nx σ H')
      (l := [(.ref C1, fun _ _ _ => tRet (tC (.str r1))), (.ref C2, fun _ _ _ => tRet (tC (.str r2)))]) rfl rfl takes_none5 (fun W pn xe tk _ => ?_)
      (.cons ⟨n1, hd1, .inl hm1⟩ (fun _ _ _ _ _ _ _ => pss_one (ps_ret pe_str)) (.cons ⟨n2, hd2, .inl hm2⟩ (fun _ _ _ _ _ _ _ => pss_one (ps_ret pe_str)) .nil))) (pss_one (ps_ret pe_str)), ?_⟩
  · refine ⟨fun pins s' σ H' D I h' => ?_⟩
    obtain ⟨Ech, hW, h1, h2, h3⟩ := h'
    exact (pss_one (ps_expr (pos := p3) (act W pn xe Ech p1 p2 tk hW))).run pins s' σ H' D I ⟨h1, h2, h3⟩
  · exact ⟨fun cls _ H' => ∃ b, PySem.W.exmOne X.K cls (.ref C1) = some b ∧ (b = true → Q (.str r1) H') ∧ (b = false → ∃ b2, PySem.W.exmOne X.K cls (.ref C2) = some b2 ∧ (b2 = true → Q (.str r2) H') ∧ (b2 = false → False)),
      fun cls d σ' H' ⟨b, z1, z2, z3⟩ => ⟨b, z1, fun hb a _ => z2 hb, fun hb => let ⟨b2, y1, y2, y3⟩ := z3 hb; ⟨b2, y1, fun hb a _ => y2 hb, fun hb => y3 hb⟩⟩, h0 f, hc, h⟩
end
end Lk
/-! ### the end of a law row over FnG, with tables of code objects -/
namespace Lk
open PySem PySem.Spec PyProof.Rows L2 LamX
/-- the entry's abstract heap with the tables laid over it -/
def overT (cs : List (Addr × Addr)) (H : Hp) : Hp := fun b => if b ∈ cs.map (·.2) then some (.tbl #[]) else H b
theorem overT_in {cs : List (Addr × Addr)} {H : Hp} {b : Addr} (h : b ∈ cs.map (·.2)) : overT cs H b = some (.tbl #[]) := if_pos h
theorem overT_out {cs : List (Addr × Addr)} {H : Hp} {b : Addr} (h : b ∉ cs.map (·.2)) : overT cs H b = H b := if_neg h
theorem law_callTG {P : Program} {w : World} {K : PySem.W.Frag} {mg mb : Str → Option Value} {k : Nat} {fa a : Addr} {cs : List (Addr × Addr)} {fd : FuncData} {x : Str} {sp : Sp} {s₁ : Shared} {vs : List Value} {ns : List Int}
    (KX : K.In s₁.heap) (hns : s₁.heap.Ns mainGlobals mg) (hb : s₁.heap.Ns builtinsNs mb) (hbb : ∀ x : Str, x ≠ "__name__" → mb x = bootBuiltins x) (hlim : s₁.heap.NoLimit) (hg : s₁.gens = #[])
    (hT : ∀ p ∈ cs, s₁.heap.get? p.2 = some { cls := .none, data := .fields #[] }) (nT : ∀ p ∈ cs, K.lookup p.2 = none) (C : ∀ p ∈ cs, PySem.W.CodeHd s₁.heap p.1 p.2)
    (hbm : ∃ (bm : Addr) (ob : Obj), mg "__builtins__" = some (.ref bm) ∧ bm ≠ builtinsNs ∧ s₁.heap.get? bm = some ob ∧ ob.cls = .type "module" ∧ ob.dict = some builtinsNs ∧ ob.data = .plain)
    (ha : s₁.heap.get? a = some { cls := .type "list", data := .seq vs.toArray }) (hi : IntsAre vs ns) (hl : ns.length ≤ sizeLine) (hr : Room k callerA)
    (F : ∀ base : Heap, K.In base → base.Ns mainGlobals mg → (∀ p ∈ cs, TabB base mg p.1 p.2) → FnG P w K mg base CX0 k fa fd [x] sp) (hbind : ∀ (s : Shared) (u : Value), BindsTo s fd ⟨[u], []⟩ [(x, u)])
    (hsp : ∀ H : Hp, (∀ p ∈ cs, H p.2 = some (.tbl #[])) → SqL K H a (ns.map V.int) → sp [.ref a] H (fun v _ => v = .bl true) fun _ _ _ => False) :
    codeAny (model P w) callerA (.call (.ref fa) ⟨[.ref a], []⟩) (fun r s' => r = .ok (.ret (.bool true)) ∧ OldK s₁.heap s'.heap ∧ s'.os = s₁.os ∧ AllBare s'.gens) s₁ := by
  obtain ⟨H0, En⟩ := entry_of (P := P) (w := w) KX ha hi hl
  have tabAt : ∀ b ∈ cs.map (·.2), s₁.heap.get? b = some { cls := .none, data := .fields #[] } := by
    intro b hb
    obtain ⟨p, hp, rfl⟩ := List.mem_map.mp hb
    exact hT p hp
  have memT : ∀ p ∈ cs, p.2 ∈ cs.map (·.2) := fun p hp => List.mem_map.mpr ⟨p, hp, rfl⟩
  have aT : a ∉ cs.map (·.2) := fun z => by
    have e := (tabAt a z).symm.trans ha
    have e2 : Data.fields #[] = Data.seq vs.toArray := congrArg Obj.data (Option.some.inj e)
    cases e2
  -- an object that is neither the script nor a table is not tracked
  have free : ∀ {b : Addr} {o : Obj}, s₁.heap.get? b = some o → o.data ≠ .seq vs.toArray → o.data ≠ .fields #[] → overT cs H0 b = none := by
    intro b o e h1 h2
    have hb : b ∉ cs.map (·.2) := fun z => by
      rw [tabAt b z] at e
      cases e
      exact h2 rfl
    rw [overT_out hb]
    cases q : H0 b with
    | none => rfl
    | some u =>
      rw [En.just b u q, ha] at e
      cases e
      exact (h1 rfl).elim
  have nsB : ∀ {b : Addr} {m : Str → Option Value}, s₁.heap.Ns b m → (hidT s₁.heap (overT cs H0)).Ns b m := by
    rintro b m ⟨o, es, ep, e, d, r⟩
    refine ⟨o, es, ep, hidT_get e (free e ?_ ?_), d, r⟩ <;> rw [d] <;> intro z <;> cases z
  have kB : K.In (hidT s₁.heap (overT cs H0)) := by
    intro b o e
    have hb : b ∉ cs.map (·.2) := fun z => by
      obtain ⟨p, hp, rfl⟩ := List.mem_map.mp z
      rw [nT p hp] at e
      cases e
    refine hidT_get (KX b o e) ?_
    rw [overT_out hb]
    cases q : H0 b with
    | none => rfl
    | some u =>
      have e1 := En.just b u q
      subst e1
      rw [En.kout u q] at e; cases e
  have hM : L2.Mod K mg (hidT s₁.heap (overT cs H0)) := by
    obtain ⟨mc, h1, h2⟩ := hlim
    exact ⟨kB, nsB hns, ⟨mb, nsB hb, hbb⟩, ⟨mc, nsB h1, h2⟩⟩
  have TB : ∀ p ∈ cs, TabB (hidT s₁.heap (overT cs H0)) mg p.1 p.2 := by
    intro p hp
    refine ⟨?_, ?_, ?_⟩
    · obtain ⟨o, us, file, tf, flags, tg, inF, text, tt, e1, r1, r2, r3, rest⟩ := C p hp
      refine ⟨o, us, file, tf, flags, tg, inF, text, tt, hidT_get e1 (free e1 ?_ ?_), r1, r2, r3, rest⟩
      · rw [r2]; intro z; cases z
      · rw [r2]; intro z; cases z; simp at r3
    · obtain ⟨bm, ob, b1, b2, b3, b4, b5, b6⟩ := hbm
      refine ⟨bm, ob, b1, b2, ?_, ?_, hidT_get b3 (free b3 ?_ ?_), b4, b5, b6⟩
      · rintro rfl
        obtain ⟨o, es, ep, e, hd, _⟩ := hns
        rw [b3] at e
        cases e
        rw [b6] at hd
        cases hd
      · rintro rfl
        rw [hT p hp] at b3
        cases b3
        cases b6
      · rw [b6]; intro z; cases z
      · rw [b6]; intro z; cases z
    · intro z
      obtain ⟨o, es, ep, e, hd, _⟩ := hns
      rw [z, hT p hp] at e
      cases e
      cases hd
  have ok : HOk P w (overT cs H0) s₁.heap := by
    intro b u e
    by_cases hb : b ∈ cs.map (·.2)
    · rw [overT_in hb] at e
      cases e
      exact tabAt b hb
    · rw [overT_out hb] at e
      rcases En.only b with y | ⟨o, xs, y⟩
      · rw [y] at e; cases e
      · rw [y] at e
        cases e
        exact En.ok b _ y
  have e0 : Env0 P w K mg (hidT s₁.heap (overT cs H0)) callerA [] s₁ (overT cs H0) :=
    ⟨rfl, hM, fun b o e => of_hidT e, Nat.le_of_eq (hidT_size _ _), trivial, fun b hb => (nomatch (show b ∈ ([] : List Addr) from hb)), ok, .of_eq hg⟩
  have seq : SqL K (overT cs H0) a (ns.map V.int) := by
    have e := overT_out (H := H0) aT
    have q := En.seq
    unfold SqL Rd at q ⊢
    rw [e]
    exact q
  have run := (F _ kB (nsB hns) TB).run callerA [] s₁ (overT cs H0) ⟨[.ref a], []⟩ [.ref a] [.ref a] _ _ rfl hr e0 (hbind s₁ (.ref a)) (.cons rfl .nil) (hsp _ (fun p hp => overT_in (memT p hp)) seq)
  refine codeAny_mono run ?_
  intro r s' h
  match r, h with
  | .error e, h => exact h.elim
  | .ok (.ret u), ⟨v, H', os, bare, un, hok', r', q⟩ =>
    obtain rfl : v = .bl true := q
    obtain rfl : u = Value.bool true := r'
    have same : ∀ b o, b ∉ cs.map (·.2) → s₁.heap.get? b = some o → s'.heap.get? b = some o := by
      intro b o nb e
      have e1 := overT_out (H := H0) nb
      cases z : H0 b with
      | none => exact un.keep b o e (e1.trans z) (by intro y; exact nomatch (show b ∈ ([] : List Addr) from y)) (by simp)
      | some u =>
        rcases En.only b with y | ⟨ob, xs, y⟩
        · rw [z] at y; cases y
        · have p1 := (En.ok b _ y).1
          have p2 := (hok' b _ (un.frzs b ob _ (e1.trans y))).1
          rw [p1] at e
          cases e
          exact p2
    have grown : ∀ p ∈ cs, ∃ more : Array Value, s'.heap.get? p.2 = some { cls := .none, data := .fields more } := by
      intro p hp
      obtain ⟨more, z⟩ := un.tbls p.2 #[] (overT_in (memT p hp))
      exact ⟨_, hok' p.2 _ z⟩
    refine ⟨rfl, ⟨fun b o e => ?_, fun b o e => ?_⟩, os, bare⟩
    · by_cases hb : b ∈ cs.map (·.2)
      · obtain ⟨p, hp, rfl⟩ := List.mem_map.mp hb
        obtain ⟨more, hm⟩ := grown p hp
        rw [hT p hp] at e
        cases e
        exact .inr (.inl ⟨((C p hp).tab (hT p hp)).isCodeTable, rfl, #[], more, rfl, by rw [Array.empty_append]; exact hm⟩)
      · exact .inl (same b o hb e)
    · by_cases hb : b ∈ cs.map (·.2)
      · obtain ⟨p, hp, rfl⟩ := List.mem_map.mp hb
        obtain ⟨more, hm⟩ := grown p hp
        exact ⟨_, hm⟩
      · exact ⟨o, same b o hb e⟩
theorem walk_ofTG {l : PySem.W.OpenLaw} {n k : Nat} {q : Program} {loose : List Str} {XP : (Str → Option Value) → Heap → Prop} {YP : World → Heap → Prop} {d : DefRec} {K : Params → PySem.W.Frag} {x : Str}
    (hn : l.most = some n) (hn2 : n ≤ sizeLine) (hdf : d.params.defaults = []) (hr : Room k callerA) (hY : ∀ (w : World) (h : Heap), YP w h → (K w.params).In h)
    (F : ∀ (w : World) (mg : Str → Option Value) (fa : Addr) (h : Heap), YP w h → (K w.params).In h → h.Ns mainGlobals mg → mg d.name = some (.ref fa) →
      ∃ (fd : FuncData) (cs : List (Addr × Addr)) (sp : Sp), (∀ p ∈ cs, h.get? p.2 = some { cls := .none, data := .fields #[] }) ∧ (∀ p ∈ cs, (K w.params).lookup p.2 = none) ∧ (∀ p ∈ cs, PySem.W.CodeHd h p.1 p.2) ∧ (∀ (s : Shared) (u : Value), BindsTo s fd ⟨[u], []⟩ [(x, u)]) ∧
        (∀ (H : Hp) (a : Addr) (ns : List Int), ns.length ≤ n → (∀ p ∈ cs, H p.2 = some (.tbl #[])) → SqL (K w.params) H a (ns.map V.int) → sp [.ref a] H (fun v _ => v = .bl true) fun _ _ _ => False) ∧
        ∀ base : Heap, (K w.params).In base → base.Ns mainGlobals mg → (∀ p ∈ cs, TabB base mg p.1 p.2) → FnG l.prog w (K w.params) mg base CX0 k fa fd [x] sp) :
    PySem.W.WalkO q loose XP YP l.row.toRowW d [] (fun f vs => PySem.call f vs) := by
  refine Att.attach_callB hn hdf ?_
  intro w s₀ s₁ mg mb fa o pm cd doc a vs ns G Y ho hd hcd hmg hobj hints hlen hbits hg
  obtain ⟨fd, cs, sp, hT, nT, C, hb, hsp, hF⟩ := F w mg fa _ Y (hY w _ Y) G.T.g hmg
  exact law_callTG (hY w _ Y) G.T.g G.T.b G.T.builtins G.T.nolimit hg hT nT C G.T.bmain hobj hints (Nat.le_trans hlen hn2) hr hF hb fun H hT hS => hsp H a ns hlen hT hS
end Lk
namespace Lk
open PySem PySem.Spec PyProof.Rows L2
/-- behind the reckoning a token is out -/
def PEs (X : Cx) (e : Expr) (t : TE) : Prop :=
  ∀ (pins : List (Addr × Obj)) (s : Shared) (σ : L2.St) (H : Hp) (Q : VK), Inv X pins σ H s → t σ H Q → wpAny (model X.prog X.w) X.A (eval e X.env) (fun v s' => 1 ≤ s'.toks ∧ EP X pins σ Q v s') X.xe s
section
variable {X : Cx} {st : Stmt} {rest : List Stmt} {t u : TS} {K : PySem.W.Frag}
variable {e : Expr} {es : List Expr} {ta : TA} {te : TE} {name : Str} {apos cpos : Pos} {T id : String} {r : V → List V → Hp → VK → Prop} {x : Str} {j : Nat} {px : Pos}
theorem pes_bm (pa : PlainAttrs T) (slot : Slot T name id) (hty : typeOf (.builtin id) = pure (.type "method_descriptor")) (hm : MtR X id r) (ha : PA X (e :: es) ta)
    (hbase : attributeBase (.Constant (.str x) j px) name X.env (eval (.Constant (.str x) j px) X.env) = eval (.Constant (.str x) j px) X.env := by rfl)
    (hfew : Few X e es cpos := by rfl)
    (hline : (apos.endLine == cpos.line) = true := by rfl) (hs : starEach (e :: es) X.env = (false, eval e X.env) :: starEach es X.env := by rfl) (hplain : (backTo cpos (starEach es X.env)).any (·.1) = false := by rfl) (hK : X.K = K := by rfl) :
    PEs X (.Call (.Attribute (.Constant (.str x) j px) name apos) (e :: es) [] cpos) (tBM K T r (tC (.str x)) ta) := by
  subst hK
  intro pins s σ H Q I h
  refine wpAny_Call_method_late hbase hfew hline rfl (Calls.Constant_str ?_)
  have I1 := I.tok (s.toks + 1)
  obtain ⟨h1, h2⟩ := tyV_is I1 (show RelV (.str x) _ from ⟨s.toks, rfl⟩) h.1
  refine ⟨T, id, pa, slot, hty, h1, h2, ?_⟩
  have hA := ha.run cpos pins _ σ H _ I1 h.2
  refine wpAny_mono (wpAny_toks_of (n := 1) (by show 1 ≤ s.toks + 1; omega) (Q := EP X pins σ Q) (E := X.xe) ?_) (fun _ _ z => z) (fun _ _ z => z.2)
  rw [hs] at hA ⊢
  refine Calls.callWith_builtin (by show (false || (backTo cpos (starEach es X.env)).any (·.1)) = false; rw [hplain] <;> rfl) (Calls.evalArgs_plain ?_)
  exact thn hA fun us s2 ⟨vs, H2, I2, r2, q2⟩ => hm pins s2 σ H2 (.str x) vs (.str x s.toks) us Q I2 ⟨_, rfl⟩ r2 q2
/-- name = value; behind it a token is out -/
theorem pss_setT {i : Nat} {x : Str} {pos pos' : Pos} (hN : X.N.Nodup) (hi : X.N[i]? = some x) (hx : Loc X.env.scope x) (he : PEs X e te) (h2 : PSsT X rest u)
    (hs : swapsWith e (some (.Name x pos')) pos.line X.env = pure false := by rfl) (hf : X.fn x = true ∨ X.env.scope.names.lookup x = some .local := by first | exact .inl rfl | exact .inr rfl | assumption) :
    PSs X (.Assign [.Name x pos'] e pos :: rest) (tSeq (tAsg te (gName i)) u) := by
  refine ⟨fun pins s σ H D I h => ?_⟩
  refine wpAny_execs_cons (wpAny_Assign_Name (thn (he pins s σ H _ I h) fun v s1 q0 => ?_) hs)
  obtain ⟨hk, y, H1, I1, r1, q1⟩ := q0
  exact wpAny_mono (wpAny_toks_of hk (store_ok (Q := fun _ s2 => Inv X pins (σ.set i (some y)) H1 s2) I1 hN hi hx r1 (fun s2 I2 => I2) hf)) (fun _ s2 q => h2 pins s2 _ H1 D q.1 q.2 q1) (fun _ _ z => z.2)
theorem pst_set {i : Nat} {x : Str} {pos pos' : Pos} (hN : X.N.Nodup) (hi : X.N[i]? = some x) (hx : Loc X.env.scope x) (he : PET X e te)
    (hs : swapsWith e (some (.Name x pos')) pos.line X.env = pure false := by rfl) (hf : X.fn x = true ∨ X.env.scope.names.lookup x = some .local := by first | exact .inl rfl | exact .inr rfl | assumption) :
    PST X (.Assign [.Name x pos'] e pos) (tAsg te (gName i)) := by
  intro pins s σ H D h0 I h
  refine wpAny_Assign_Name (thn (he pins s σ H _ h0 I h) fun v s1 ⟨y, H1, I1, r1, q1⟩ => ?_) hs
  exact store_ok I1 hN hi hx r1 (fun s2 I2 => ⟨_, H1, I2, q1⟩) hf
/-- for, with a token out ahead of it: so it is within the body -/
theorem pst_forB {tg iter : Expr} {body : List Stmt} {wi : TI} {g : TG} {tb : TS} {pos : Pos} (hp : PassesOwn (model X.prog X.w) X.A X.env X.xe) (hc : X.calm = true) (hi : PI X tg iter wi) (hg : PG X tg g) (hb : PSsT X body tb)
    (hs : ∀ x, foldedSetIterable iter X.env x = pure x := by intro _; rfl) : PST X (.For tg iter body [] pos) (tFor wi g tb) := by
  intro pins s σ H D h0 I h
  refine wpAny_For (wpAny_mono (wpAny_toks_of h0 (hi.run pins s σ H _ I h)) (fun v s1 h1 => wpAny_mono (wpAny_toks_of h1.1 h1.2) (fun itv s2 h2 => ?_) fun _ _ z => z.2) fun _ _ z => z.2) hs
  obtain ⟨k2, it, fp, tn, J, H2, e, I2, T, st2, f2, W, ⟨m0, w0⟩, turn⟩ := h2
  subst e
  have stat : ∀ {H' : Hp}, (∀ b ∈ fp, H' b = none) → ∀ b ∈ fp, FpOk X pins H' b := fun hn b hb => ⟨hn b hb, (f2 b hb).2⟩
  refine codeAny_forLoop_any (fun n s' => 1 ≤ s'.toks ∧ ∃ i σ' H', Inv X pins σ' H' s' ∧ tn i s'.heap ∧ (∀ b ∈ fp, H' b = none) ∧ W i n σ' H') ?_ m0 ⟨k2, 0, σ, H2, I2, st2, fun b hb => (f2 b hb).1, w0⟩
  rintro n s3 ⟨k3, i, σ3, H3, I3, st3, fr3, w3⟩
  rcases turn i n σ3 H3 w3 with ⟨stop, qn⟩ | ⟨go, N, hN, step⟩
  · refine wpAny_passesOwn hp (thn (T.done X rfl rfl rfl hc i pins s3 σ3 H3 X.xe I3 (stat fr3) st3 stop) fun r s4 ⟨hr, I4⟩ => ?_)
    subst hr
    exact wpAny_execs_nil ⟨σ3, H3, I4, qn⟩
  · refine wpAny_mono (wpAny_toks_of k3 (wpAny_passesOwn hp (T.item X rfl rfl rfl hc i pins s3 σ3 H3 X.xe I3 (stat fr3) st3 go))) (fun r s4 ⟨k4, u, hr, h4⟩ => ?_) fun _ _ z => z.2
    subst hr
    refine wpAny_mono (wpAny_toks_of k4 (wpAny_passesOwn hp h4)) (fun _ s5 ⟨k5, x, H5, I5, r5, y5, st5, fr5⟩ => ?_) fun _ _ z => z.2
    have I5' := I5.pinned (stat fr5) (T.obj _ _ st5)
    refine wpAny_mono (wpAny_toks_of k5 (wpAny_passesOwn hp (hg.run _ s5 σ3 H5 x u _ I5' r5 (step x H5 y5)))) (fun _ s6 ⟨k6, σ6, H6, I6, q6⟩ => ?_) fun _ _ z => z.2
    refine wpAny_mono (wpAny_toks_of k6 (wpAny_passesOwn hp (hb _ s6 σ6 H6 _ k6 I6 q6))) (fun f s7 ⟨k7, q7⟩ => ?_) fun _ _ z => z.2
    have again : ∀ {σ7 : L2.St} {H7 : Hp}, Inv X (pins ++ pinsAt fp s5.heap) σ7 H7 s7 → N σ7 H7 → ∃ m, m < n ∧ 1 ≤ s7.toks ∧ ∃ i σ' H', Inv X pins σ' H' s7 ∧ tn i s7.heap ∧ (∀ b ∈ fp, H' b = none) ∧ W i m σ' H' := fun {σ7 H7} I7 n7 => by
      obtain ⟨m', hm, w7⟩ := hN σ7 H7 n7
      refine ⟨m', hm, k7, i + 1, σ7, H7, I7.unpinned, T.keep _ _ _ st5 fun b hb o e => (I7.pin (b, o) (List.mem_append_right _ (List.mem_append_right _ (mem_pinsAt hb e)))).1, fun b hb => ?_, w7⟩
      obtain ⟨o, e, d⟩ := T.obj _ _ st5 b hb
      exact (I7.pin (b, o) (List.mem_append_right _ (List.mem_append_right _ (mem_pinsAt hb e)))).2.1
    cases f with
    | next => obtain ⟨σ7, H7, I7, n7⟩ := q7; exact again I7 n7
    | cont => obtain ⟨σ7, H7, I7, n7⟩ := q7; exact again I7 n7
    | brk => obtain ⟨σ7, H7, I7, q7⟩ := q7; exact ⟨σ7, H7, I7.unpinned, q7⟩
    | ret v => obtain ⟨x7, σ7, H7, I7, r7, q7⟩ := q7; exact ⟨x7, σ7, H7, I7.unpinned, r7, q7⟩
end
end Lk
/-! ### x, *rest = a list or a tuple -/
namespace Lk
open PySem PySem.Spec PySem.W PyProof.Rows
section
variable {P : Program} {w : World} {A : Around} {E : Value → Shared → Prop} {s : Shared} {l : Addr} {v : Value} {vs : List Value} {Q : List Value → Shared → Prop}
/-- what stands behind x, *rest = ..: the rest is a new list, all else stays -/
def Rested (s : Shared) (v : Value) (vs : List Value) (Q : List Value → Shared → Prop) : Prop :=
  ∀ (g : Heap) (tk : Nat), (∀ b o, s.heap.get? b = some o → g.get? b = some o) → Q [v, .ref g.objs.size] { s with heap := g.push { cls := .type "list", data := .seq vs.toArray }, toks := tk }
theorem star_of_list (hh : A.handled = none) (hl : s.heap.IsList l (v :: vs).toArray) (hz : vs.length + 1 ≤ sizeLine) (h : Rested s v vs Q) : wpAny (model P w) A (unpackItems (.ref l) 2 (some 1)) Q E s := by
  obtain ⟨ol, hol⟩ : ∃ o, s.heap.get? l = some o := let ⟨o, e, _⟩ := hl; ⟨o, e⟩
  have ne : l ≠ s.heap.objs.size := Nat.ne_of_lt (Heap.lt_size hol)
  have n1 : 0 + 1 ≤ (v :: vs).toArray.size := by simp
  unfold unpackItems notIterableAtAll
  refine wpAny_bind (wpAny_bind (wpAny_specialOf hl.typeIs slot_list_iter.lookup (wpAny_pure ?_)))
  rw [if_neg (by decide)]
  refine wpAny_bind (wpAny_holding (wpAny_pyIter_list hl (wpAny_bind (wpAny_holding (kun_draw ne 1 0 _ _ ⟨_, Heap.get?_push_size _ rfl, rfl, rfl⟩ (hl.push _) n1 fun g hi sb => ?_)))))
  have lg : g.IsList l (v :: vs).toArray := (hl.push _).extBut sb.extBut ne
  have szg : s.heap.objs.size < g.objs.size := by obtain ⟨o, e, _⟩ := hi; exact Heap.lt_size e
  have llg : l < g.objs.size := Nat.lt_trans (Heap.lt_size hol) szg
  rw [if_neg (by simp)]
  refine wpAny_bind (wpAny_holding (kun_collect (s := { s with heap := g }) (items := (v :: vs).toArray) (T := "list_iterator") (.inr (.inr (.inl rfl))) (Walks.list (A := A.in1) hh s.heap.objs.size l ne (v :: vs).toArray) (fun _ _ st => st.1.typeIs) (k := 1) (by simp) ⟨hi, lg⟩ szg llg (fun g2 tk kp => ?_) (by simpa using hz)))
  have kp2 : ∀ b o, s.heap.get? b = some o → g2.get? b = some o := fun b o e => by
    have nb : b ≠ s.heap.objs.size := Nat.ne_of_lt (Heap.lt_size e)
    exact kp b o nb (sb.extBut b o nb (Heap.get?_push_of_some _ e))
  simp only [List.drop_succ_cons, List.drop_zero, List.take_succ_cons, List.take_zero, Nat.sub_self, Nat.sub_zero, List.take_length, List.drop_length, Nat.not_lt_zero, if_false, Nat.reduceSub]
  exact wpAny_bind (wpAny_newList (wpAny_pure (h g2 tk kp2)) (by omega))
theorem star_of_tup (hh : A.handled = none) (hl : IsTup s.heap l (v :: vs).toArray) (hz : vs.length + 1 ≤ sizeLine) (h : Rested s v vs Q) : wpAny (model P w) A (unpackItems (.ref l) 2 (some 1)) Q E s := by
  obtain ⟨ol, hol⟩ : ∃ o, s.heap.get? l = some o := let ⟨o, e, _⟩ := hl; ⟨o, e⟩
  have ne : l ≠ s.heap.objs.size := Nat.ne_of_lt (Heap.lt_size hol)
  have n1 : 0 + 1 ≤ (v :: vs).toArray.size := by simp
  unfold unpackItems notIterableAtAll
  refine wpAny_bind (wpAny_bind (wpAny_specialOf hl.typeIs slot_tuple_iter.lookup (wpAny_pure ?_)))
  rw [if_neg (by decide)]
  refine wpAny_bind (wpAny_holding (iter_tuple hl (wpAny_bind (wpAny_holding (draw_tuple ne 1 0 _ _ ⟨_, Heap.get?_push_size _ rfl, rfl, rfl⟩ (hl.push _) n1 fun g hi sb => ?_)))))
  have lg : IsTup g l (v :: vs).toArray := (hl.push _).extBut sb.extBut ne
  have szg : s.heap.objs.size < g.objs.size := by obtain ⟨o, e, _⟩ := hi; exact Heap.lt_size e
  have llg : l < g.objs.size := Nat.lt_trans (Heap.lt_size hol) szg
  rw [if_neg (by simp)]
  refine wpAny_bind (wpAny_holding (kun_collect (s := { s with heap := g }) (items := (v :: vs).toArray) (T := "tuple_iterator") (.inr (.inr (.inr rfl))) (Walks.tuple (A := A.in1) hh s.heap.objs.size l ne (v :: vs).toArray) (fun _ _ st => st.1.typeIs) (k := 1) (by simp) ⟨hi, lg⟩ szg llg (fun g2 tk kp => ?_) (by simpa using hz)))
  have kp2 : ∀ b o, s.heap.get? b = some o → g2.get? b = some o := fun b o e => by
    have nb : b ≠ s.heap.objs.size := Nat.ne_of_lt (Heap.lt_size e)
    exact kp b o nb (sb.extBut b o nb (Heap.get?_push_of_some _ e))
  simp only [List.drop_succ_cons, List.drop_zero, List.take_succ_cons, List.take_zero, Nat.sub_self, Nat.sub_zero, List.take_length, List.drop_length, Nat.not_lt_zero, if_false, Nat.reduceSub]
  exact wpAny_bind (wpAny_newList (wpAny_pure (h g2 tk kp2)) (by omega))
end
end Lk
namespace Lk
open PySem PySem.Spec PyProof.Rows L2
section
variable {X : Cx}
/-- x, *rest = ..: the first and a new list of the others -/
def gStar (K : PySem.W.Frag) (t : TGs) : TG := fun v σ H Q => ∃ a x xs, v = .ref a ∧ (SqL K H a (x :: xs) ∨ SqT K H a (x :: xs)) ∧ ∀ D, H D = none → t [x, .ref D] σ (upd H D (.lst xs)) Q
theorem pg_star {e1 e2 : Expr} {k : Nat} {p pos : Pos} {t : TGs} {K : PySem.W.Frag} (hc : X.calm = true) (h : PGs X [e1, e2] t) (hK : X.K = K := by rfl)
    (hl : (assignEach [e1, .Starred e2 p] X.env).length = 2 := by rfl) (hst : (assignEach [e1, .Starred e2 p] X.env).findIdx? (·.1) = some 1 := by rfl)
    (hm : (assignEach [e1, .Starred e2 p] X.env).map (·.2) = (assignEach [e1, e2] X.env).map (·.2) := by rfl) : PG X (.Tuple [e1, .Starred e2 p] k pos) (gStar K t) := by
  subst hK
  refine ⟨fun pins s σ H v u Q I r hw => ?_⟩
  obtain ⟨a, x, xs, rfl, hq, hw⟩ := hw
  cases r
  rw [PyProof.Rows.assign_Tuple]
  refine wpAny_bind (wpAny_standAt ?_)
  unfold unpack
  rw [hl, hst, hm]
  have fin : ∀ (v : Value) (vs : List Value), RelV x v → Vals xs vs → xs.length ≤ sizeLine → Rested s v vs fun ws s' => wpAny (model X.prog X.w) X.A (assignInOrder ((assignEach [e1, e2] X.env).map (·.2)) ws) (fun _ s' => ∃ σ' H', Inv X pins σ' H' s' ∧ Q σ' H') X.xe s' := by
    intro v vs r1 rs hz g tk kp
    have I1 : Inv X pins σ H { s with heap := g, toks := tk } := I.kept kp
    have I2 : Inv X pins σ (upd H g.objs.size (.lst xs)) { s with heap := g.push { cls := .type "list", data := .seq vs.toArray }, toks := tk } :=
      I1.laid (t' := tk) (fun b o e => Heap.get?_push_of_some _ e) (Nat.le_refl _) ⟨hz, vs, 0, rs, Heap.get?_push_size _ rfl⟩
    exact h.run pins _ σ _ [x, .ref g.objs.size] _ Q I2 (.cons r1 (.cons rfl .nil)) (hw _ (I1.hok.fresh (Nat.le_refl _)))
  rcases hq with hq | hq
  · obtain ⟨its, rv, ⟨o, m, e, c, d, q⟩, hz⟩ := I.list hq
    cases rv with
    | cons r1 rs =>
      rw [List.length_cons] at hz
      exact wpAny_bind (wpAny_holding (star_of_list (I.ok.hd hc) ⟨o, e, c, m, q⟩ (by rw [← rs.length]; omega) (fin _ _ r1 rs (by omega))))
  · obtain ⟨its, rv, ht, hz⟩ := I.tuple hq
    cases rv with
    | cons r1 rs =>
      rw [List.length_cons] at hz
      exact wpAny_bind (wpAny_holding (star_of_tup (I.ok.hd hc) ht (by rw [← rs.length]; omega) (fin _ _ r1 rs (by omega))))
end
end Lk
namespace My
open PySem PySem.Spec PyProof.Rows L2 Lk Evl LamX
def Dice (H : Hp) (d : Addr) : Prop := ∃ a b c : Int, H d = some (.lst [.int a, .int b, .int c])
structure Roll (d : Addr) (H H' : Hp) : Prop where
  dice : Dice H' d
  keep : ∀ b o, H b = some o → b ≠ d → H' b = some o
theorem Dice.upd {H : Hp} {d : Addr} {a b c : Int} : Dice (upd H d (.lst [.int a, .int b, .int c])) d := ⟨a, b, c, upd_same⟩
theorem Roll.upd {H : Hp} {d : Addr} {a b c : Int} : Roll d H (upd H d (.lst [.int a, .int b, .int c])) := ⟨Dice.upd, fun b o e hb => by rw [upd_ne hb]; exact e⟩
theorem Roll.refl {H : Hp} {d : Addr} (h : Dice H d) : Roll d H H := ⟨h, fun _ _ e _ => e⟩
theorem Roll.trans {d : Addr} {H H1 H2 : Hp} (a : Roll d H H1) (b : Roll d H1 H2) : Roll d H H2 := ⟨b.dice, fun c o e n => b.keep c o (a.keep c o e n) n⟩
theorem Roll.ex {d : Addr} {H H1 H2 : Hp} (a : Roll d H H1) (b : Ex H1 H2) : Roll d H H2 := ⟨by obtain ⟨x, y, z, e⟩ := a.dice; exact ⟨x, y, z, b _ _ e⟩, fun c o e n => b _ _ (a.keep c o e n)⟩
theorem Roll.of_ex {d : Addr} {H H1 : Hp} (h : Dice H d) (b : Ex H H1) : Roll d H H1 := (Roll.refl h).ex b
abbrev tl (z : Str) : List Nat := z.cps.toList
theorem tl_len (z : Str) : (tl z).length = z.length := by simp [tl, Str.length]
def SG : Str := "#$0123:_abcdefg"
def sigs : List Nat := tl SG
theorem sigs_eq : sigs = [35, 36, 48, 49, 50, 51, 58, 95, 97, 98, 99, 100, 101, 102, 103] := by decide +kernel
def isStr : V → Bool
  | .str _ => true
  | _ => false
def isText : V → Bool
  | .str z => (tl z).all fun c => decide (c ∈ sigs)
  | _ => false
theorem sgn_inj {a c : Nat} : sgn a = sgn c ↔ a = c := by
  constructor
  · intro h
    have := congrArg (fun z : Str => z.cps.toList) h
    simpa [sgn] using this
  · intro h; rw [h]
theorem beq_sgn (a c : Nat) : (sgn a == sgn c) = decide (a = c) := by
  by_cases h : a = c
  · subst h; simp
  · rw [decide_eq_false h]
    exact beq_eq_false_iff_ne.mpr fun e => h (sgn_inj.mp e)
section
/-- what a value must be for the checks: its type is known, a text is not too long -/
structure Known (K : PySem.W.Frag) (H : Hp) (v : V) : Prop where
  ty : ∃ t, TyX K H v t ∧ PySem.W.kitOne K t (.type "str") = some (isStr v)
  len : ∀ z, v = .str z → z.length ≤ 1000000
theorem kit_str (K : PySem.W.Frag) : PySem.W.kitOne K (.type "str") (.type "str") = some true := by rfl
theorem Known.str {K : PySem.W.Frag} {H : Hp} {z : Str} (h : z.length ≤ 1000000) : Known K H (.str z) := ⟨⟨_, .base (.str z), kit_str K⟩, fun y e => by cases e; exact h⟩
end
theorem roll_mut {d L : Addr} {H H' : Hp} {o : HO} (R : Roll d H H') (hL : H L = none) (hn : L ≠ d) : Roll d H (upd H' L o) := by
  refine ⟨?_, fun b o e n => ?_⟩
  · obtain ⟨a, b, c, e⟩ := R.dice
    exact ⟨a, b, c, by rw [upd_ne hn.symm]; exact e⟩
  · rw [upd_ne (ne_of_none e hL)]
    exact R.keep _ _ e n
theorem perm_erase : ∀ (l : List V) (n : Nat) (h : n < l.length), (l[n] :: l.eraseIdx n).Perm l
  | x :: l, 0, h => .refl _
  | x :: l, n + 1, h => by
    have h' : n < l.length := by simpa using h
    have ih := perm_erase l n h'
    show (l[n] :: x :: l.eraseIdx n).Perm (x :: l)
    exact (List.Perm.swap x l[n] _).trans (.cons x ih)
theorem Roll.fresh {d a : Addr} {H H' : Hp} (R : Roll d H H') (h : H' a = none) : H a = none := by
  cases z : H a with
  | none => rfl
  | some o =>
    exfalso
    by_cases e : a = d
    · obtain ⟨x1, x2, x3, q⟩ := R.dice
      rw [e, q] at h; cases h
    · have := R.keep _ _ z e
      rw [this] at h; cases h
abbrev sV (c : Nat) : V := .str (sgn c)
/-- a tuple of signs -/
def SignsAt (H : Hp) (a : Addr) (cs : List Nat) (n : Nat) : Prop := H a = some (.tup (cs.map sV)) ∧ 1 ≤ cs.length ∧ cs.length ≤ n ∧ ∀ c ∈ cs, c ∈ sigs
theorem perm_sgn {ys : List Str} {l : List Nat} (h : (ys.map V.str).Perm (l.map sV)) : ∃ cs : List Nat, ys.map V.str = cs.map sV ∧ cs.Perm l := by
  have e : (l.map sV) = (l.map sgn).map V.str := by rw [List.map_map]; rfl
  rw [e] at h
  have h2 : ys.Perm (l.map sgn) := by
    have inj : ∀ {a b : List Str}, (a.map V.str).Perm (b.map V.str) → a.Perm b := fun {a b} h => by
      have := h.map (fun v => match v with | V.str z => z | _ => Str.empty)
      simpa [List.map_map, Function.comp_def] using this
    exact inj h
  have all : ∀ y ∈ ys, ∃ c ∈ l, y = sgn c := fun y hy => by
    have := h2.mem_iff.mp hy
    obtain ⟨c, hc, rfl⟩ := List.mem_map.mp this
    exact ⟨c, hc, rfl⟩
  refine ⟨ys.map fun y => y.cps.toList.headD 0, ?_, ?_⟩
  · rw [List.map_map]
    refine List.map_congr_left fun y hy => ?_
    obtain ⟨c, _, rfl⟩ := all y hy
    simp [sgn]
  · have := h2.map (fun y : Str => y.cps.toList.headD 0)
    rw [List.map_map] at this
    have e2 : (l.map ((fun y : Str => y.cps.toList.headD 0) ∘ sgn)) = l := by
      rw [show ((fun y : Str => y.cps.toList.headD 0) ∘ sgn) = id from by funext c; simp [sgn]]
      exact List.map_id l
    rw [e2] at this
    exact this
/-- all signs of z are among l -/
def Over (l : List Nat) (z : Str) : Prop := ∀ c ∈ tl z, c ∈ l
theorem tl_app (x y : Str) : tl (x ++ y) = tl x ++ tl y := TL.tl_append x y
theorem len_app (x y : Str) : (x ++ y).length = x.length + y.length := by rw [← tl_len, tl_app, List.length_append, tl_len, tl_len]
theorem tl_sgn (c : Nat) : tl (sgn c) = [c] := rfl
theorem len_sgn (c : Nat) : (sgn c).length = 1 := rfl
theorem atI_of {α : Type} {l : List α} {i : Int} {k : Nat} {x : α} (h : l[k]? = some x) (e : i = (k : Int)) : atI l i = some x := by rw [e]; exact atI_nat h
theorem get_map {α β : Type} {l : List α} {k : Nat} {x : α} (f : α → β) (h : l[k]? = some x) : (l.map f)[k]? = some (f x) := by rw [List.getElem?_map, h]; rfl
theorem e_dice {d : Addr} {H H' : Hp} (e : Ex H H') (h : Dice H d) : Dice H' d := by obtain ⟨a, b, c, z⟩ := h; exact ⟨a, b, c, e _ _ z⟩
/-- a text of signs of l, not empty -/
def Word (l : List Nat) (n : Nat) (z : Str) : Prop := 1 ≤ z.length ∧ z.length ≤ n ∧ Over l z
theorem joinL_nil : ∀ l : List (List Nat), TL.joinL [] l = l.flatten
  | [] => rfl
  | [p] => by simp [TL.joinL]
  | p :: q :: r => by
    show p ++ ([] ++ TL.joinL [] (q :: r)) = _
    rw [joinL_nil (q :: r)]
    simp
theorem flat_sgn (ds : List Nat) : (ds.map (TL.tl ∘ sgn)).flatten = ds := by
  induction ds with
  | nil => rfl
  | cons d ds ih =>
    rw [List.map_cons, List.flatten_cons, ih]
    rfl
theorem join_sgns (ds : List Nat) : tl (Txt.join (Str.ofString "") (ds.map sgn)) = ds := by
  rw [TL.join_eq]
  have := TL.tl_join (Str.ofString "") (ds.map sgn)
  rw [show TL.tl (Str.ofString "") = [] from by decide +kernel, joinL_nil, List.map_map] at this
  rw [show tl (Str.join (Str.ofString "") (ds.map sgn)) = TL.tl (Str.join (Str.ofString "") (ds.map sgn)) from rfl, this]
  exact flat_sgn ds
/-- a comprehension whose elements draw -/
theorem lc_draw {I : Hp → Prop} {J : It} {xs : List V} {te : TE} {i : Nat} {σ : L2.St} {d : Addr} {H1 : Hp} {D : Addr} {Qd : Hp → Prop} (F : Feeds I J xs) (S : V → Prop) (hd : Dice H1 d) (hD : H1 D = none) (hI : ∀ H, Roll d H1 H → I H) (hz : xs.length ≤ 1000000)
    (hte : ∀ x ∈ xs, ∀ (H2 : Hp) (Q2 : VK), Roll d H1 H2 → (∀ v H3, S v → Roll d H2 H3 → Q2 v H3) → te ((σ.set i none).set i (some x)) H2 Q2)
    (hq : ∀ H' ys, Roll d H1 H' → H' D = some (.lst ys) → ys.length = xs.length → (∀ v ∈ ys, S v) → Qd H') :
    ∃ W : Nat → Nat → Hp → Prop, (∃ m, W 0 m (upd H1 D (.lst []))) ∧ ∀ j m H, W j m H →
      (J.stop j H ∧ Qd H) ∨ (J.go j H ∧ ∃ Nx : Hp → Prop, (∀ H', Nx H' → ∃ m', m' < m ∧ W (j + 1) m' H') ∧ ∀ x' H', J.yld j H x' H' → gName i x' (wipe σ [i]) H' fun σ2 H2 => wipe σ2 [i] = wipe σ [i] ∧ tYes σ2 H2 fun b H3 =>
        if b = true then te σ2 H3 fun y H4 => ∃ acc, H4 D = some (.lst acc) ∧ acc.length < sizeLine ∧ Nx (upd H4 D (.lst (acc ++ [y]))) else Nx H3) := by
  have hDd : D ≠ d := fun e => by
    obtain ⟨a, b, c, z⟩ := hd
    rw [e, z] at hD; cases hD
  refine lc_of F (fun j H => ∃ ys, Roll d H1 H ∧ H D = some (.lst ys) ∧ ys.length = j ∧ ∀ v ∈ ys, S v) ⟨[], Roll.of_ex hd (Ex.new hD), upd_same, rfl, fun v h => nomatch h⟩ (fun _ H h => by obtain ⟨_, h, _⟩ := h; exact hI H h) ?_ (fun H h => by obtain ⟨ys, a, b, c, e⟩ := h; exact hq H ys a b c e)
  rintro j x H hx ⟨ys, e1, e2, e3, e4⟩
  refine ⟨by simp [wipe], ?_⟩
  refine hte x (mem_get hx) H _ e1 fun v H3 hv e5 => ⟨_, e5.keep _ _ e2 hDd, ?_, ys ++ [v], roll_mut (e1.trans e5) hD hDd, upd_same, by simp [e3], fun u hu => ?_⟩
  · have := lt_get hx
    have := sizeL hz
    omega
  · rcases List.mem_append.mp hu with h | h
    · exact e4 u h
    · rw [List.mem_singleton] at h; rw [h]; exact hv
theorem sgn_list {l : List Nat} : ∀ {ys : List V}, (∀ v ∈ ys, ∃ c ∈ l, v = sV c) → ∃ ds : List Nat, ys = (ds.map sgn).map V.str ∧ ∀ c ∈ ds, c ∈ l
  | [], _ => ⟨[], rfl, fun _ h => nomatch h⟩
  | y :: ys, h => by
    obtain ⟨c, hc, rfl⟩ := h y List.mem_cons_self
    obtain ⟨ds, e, hd⟩ := sgn_list fun v hv => h v (List.mem_cons_of_mem _ hv)
    exact ⟨c :: ds, by rw [e]; rfl, fun u hu => by
      rcases List.mem_cons.mp hu with h | h
      · rw [h]; exact hc
      · exact hd u h⟩
theorem sum_sgn (ds : List Nat) : ((ds.map sgn).map (·.length)).sum = ds.length := by
  induction ds with
  | nil => rfl
  | cons d ds ih => simp only [List.map_cons, List.sum_cons, ih, len_sgn, List.length_cons]; omega
theorem tl_cut (z : Str) (lo hi : Option Int) : tl (cutS z lo hi) = ((tl z).drop (HT.sIx z.length 0 lo)).take (HT.sIx z.length z.length hi - HT.sIx z.length 0 lo) := by
  simp [cutS, tl]
theorem tl_cutFrom (z : Str) (k : Nat) : tl (cutS z (some k) none) = (tl z).drop k := by
  rw [tl_cut, HT.sIx_none, show HT.sIx z.length 0 (some (k : Int)) = min k z.length from HT.sIx_nat z.length 0 k]
  have := tl_len z
  by_cases h : k ≤ z.length
  · rw [Nat.min_eq_left h, List.take_of_length_le]
    rw [List.length_drop]; omega
  · rw [Nat.min_eq_right (by omega), Nat.sub_self, List.take_zero, List.drop_eq_nil_of_le (by omega)]
theorem tl_cutTo (z : Str) (k : Nat) : tl (cutS z none (some k)) = (tl z).take k := by
  rw [tl_cut, HT.sIx_none, show HT.sIx z.length z.length (some (k : Int)) = min k z.length from HT.sIx_nat z.length z.length k, List.drop_zero, Nat.sub_zero]
  have := tl_len z
  by_cases h : k ≤ z.length
  · rw [Nat.min_eq_left h]
  · rw [Nat.min_eq_right (by omega), List.take_of_length_le (by omega), List.take_of_length_le (by omega)]
theorem tl_cut1 (z : Str) : tl (cutS z (some 1) none) = (tl z).drop 1 := tl_cutFrom z 1
theorem len_cut1 (z : Str) : (cutS z (some 1) none).length = z.length - 1 := by rw [← tl_len, tl_cut1, List.length_drop, tl_len]
theorem ne_empty {z : Str} : (V.str z = V.str (Str.ofString "")) ↔ tl z = [] := by
  constructor
  · intro h
    have := V.str.inj h
    rw [this]
    decide +kernel
  · intro h
    congr 1
    exact TL.ext_tl (h.trans (by decide +kernel))
theorem over_app {l : List Nat} {x y : Str} (hx : Over l x) (hy : Over l y) : Over l (x ++ y) := fun c hc => by
  rw [tl_app] at hc
  rcases List.mem_append.mp hc with h | h
  · exact hx c h
  · exact hy c h
theorem over_cut {l : List Nat} {x : Str} (lo hi : Option Int) (hx : Over l x) : Over l (cutS x lo hi) := fun c hc => by
  rw [tl_cut] at hc
  exact hx c (List.mem_of_mem_drop (List.mem_of_mem_take hc))
theorem over_sgn {l : List Nat} {c : Nat} (h : c ∈ l) : Over l (sgn c) := fun x hx => by
  rw [tl_sgn, List.mem_singleton] at hx; rw [hx]; exact h
theorem len_cut (x : Str) (lo hi : Option Int) : (cutS x lo hi).length ≤ x.length := by
  rw [← tl_len, tl_cut, ← tl_len x, List.length_take, List.length_drop]; omega
theorem over_mono {l m : List Nat} {x : Str} (h : Over l x) (hs : ∀ c ∈ l, c ∈ m) : Over m x := fun c hc => hs c (h c hc)
theorem dice_ne {H : Hp} {d b : Addr} {o : HO} (h : Dice H d) (e : H b = some o) (n : ∀ xs, o ≠ .lst xs) : b ≠ d := fun z => by
  obtain ⟨x, y, u, e2⟩ := h
  rw [z, e2] at e
  exact n _ (Option.some.inj e).symm
theorem tabs_roll {T : List (Addr × Str)} {d : Addr} {H H' : Hp} (R : Roll d H H') (hd : Dice H d) (t : Tabs T H) : Tabs T H' := fun p hp => by
  obtain ⟨ps, h1, h2, h3⟩ := t p hp
  refine ⟨ps, R.keep _ _ h1 (dice_ne hd h1 fun xs z => by cases z), h2, fun pos cv hc => ?_⟩
  obtain ⟨c, e1, e2⟩ := h3 pos cv hc
  exact ⟨c, e1, R.keep _ _ e2 (dice_ne hd e2 fun xs z => by unfold CodeO at z; cases z)⟩
/-- all but the dice and the tables stays -/
def KpT (d : Addr) (H H' : Hp) : Prop := Dice H' d ∧ ∀ b o, H b = some o → b ≠ d → (∀ ps, o ≠ .tbl ps) → H' b = some o
theorem KpT.roll {d : Addr} {H H' : Hp} (R : Roll d H H') : KpT d H H' := ⟨R.dice, fun b o e n _ => R.keep b o e n⟩
theorem KpT.trans {d : Addr} {H H1 H2 : Hp} (a : KpT d H H1) (b : KpT d H1 H2) : KpT d H H2 := ⟨b.1, fun c o e n t => b.2 c o (a.2 c o e n t) n t⟩
theorem KpT.ext {d : Addr} {H H' : Hp} (hd : Dice H d) (e : ExtN H H') : KpT d H H' := ⟨by obtain ⟨x, y, z, h⟩ := hd; exact ⟨x, y, z, e _ _ h fun ps z => by cases z⟩, fun b o h _ t => e b o h t⟩
theorem KpT.mut {d M : Addr} {H H' : Hp} {o : HO} (k : KpT d H H') (f : ∀ o, H M = some o → (∀ ps, o ≠ .tbl ps) → False) (n : M ≠ d) : KpT d H (upd H' M o) :=
  ⟨by obtain ⟨x, y, z, e⟩ := k.1; exact ⟨x, y, z, by rw [upd_ne n.symm]; exact e⟩, fun b u e nb nt => by
    rw [upd_ne (fun z => f u (by rw [← z]; exact e) nt)]
    exact k.2 b u e nb nt⟩
theorem tabs_mut {T : List (Addr × Str)} {M : Addr} {H : Hp} {xs : List V} {o : HO} (t : Tabs T H) (h : H M = some (.lst xs)) : Tabs T (upd H M o) := fun p hp => by
  obtain ⟨ps, h1, h2, h3⟩ := t p hp
  refine ⟨ps, by rw [upd_ne (fun z => by rw [z, h] at h1; cases h1)]; exact h1, h2, fun pos cv hc => ?_⟩
  obtain ⟨c, e1, e2⟩ := h3 pos cv hc
  exact ⟨c, e1, by rw [upd_ne (fun z => by rw [z, h] at e2; unfold CodeO at e2; cases e2)]; exact e2⟩
/-- a value of no longer text, or a flat container: what isinstance tells of it stays told -/
inductive Thing (H : Hp) : V → Prop
  | non : Thing H .non
  | bl (b : Bool) : Thing H (.bl b)
  | int (i : Int) : Thing H (.int i)
  | str {z : Str} (h : z.length ≤ 1000000) : Thing H (.str z)
  | tup {a : Addr} {xs : List V} (e : H a = some (.tup xs)) : Thing H (.ref a)
  | lst {a : Addr} {xs : List V} (e : H a = some (.lst xs)) : Thing H (.ref a)
  | dk {a : Addr} {xs : List (Key × V)} (e : H a = some (.dK xs)) : Thing H (.ref a)
theorem Thing.known {K : PySem.W.Frag} {H : Hp} {v : V} (h : Thing H v) : Known K H v := by
  cases h with
  | non => exact ⟨⟨_, .base .non, rfl⟩, fun _ e => by cases e⟩
  | bl b => exact ⟨⟨_, .base (.bl b), rfl⟩, fun _ e => by cases e⟩
  | int i => exact ⟨⟨_, .base (.int i), rfl⟩, fun _ e => by cases e⟩
  | str h => exact Known.str h
  | tup e => exact ⟨⟨_, .base (.tup e), rfl⟩, fun _ e => by cases e⟩
  | lst e => exact ⟨⟨_, .base (.lst e), rfl⟩, fun _ e => by cases e⟩
  | dk e => exact ⟨⟨_, .base (.dK e), rfl⟩, fun _ e => by cases e⟩
/-- v is a thing apart from the dice -/
def Apart (d : Addr) (H : Hp) (v : V) : Prop := Thing H v ∧ v ≠ .ref d
theorem Apart.keep {d : Addr} {H H' : Hp} {v : V} (h : Apart d H v) (k : KpT d H H') : Apart d H' v := by
  obtain ⟨h, n⟩ := h
  refine ⟨?_, n⟩
  have go : ∀ {a : Addr} {o : HO}, V.ref a ≠ .ref d → H a = some o → (∀ ps, o ≠ .tbl ps) → H' a = some o := fun n e t => k.2 _ _ e (fun z => n (by rw [z])) t
  cases h with
  | non => exact .non
  | bl b => exact .bl b
  | int i => exact .int i
  | str h => exact .str h
  | tup e => exact .tup (go n e fun _ z => by cases z)
  | lst e => exact .lst (go n e fun _ z => by cases z)
  | dk e => exact .dk (go n e fun _ z => by cases z)
end My
/-! ### d.get(text) where d is a dict of the module; more rules by a written K -/
namespace Lk
open PySem PySem.Spec PyProof.Rows L2 StX
theorem _root_.L2.Room.units65 {k : Nat} {A : Around} (r : Room k A) : A.units + 65 < cLine := by have := r.un; omega
theorem _root_.L2.Room.units1 {k : Nat} {A : Around} (r : Room k A) : A.units + 1 < cLine := by have := r.un; omega
/-- the module's dict at a, its keys texts: what it gives -/
def KMap (K : PySem.W.Frag) (w : World) (a : Addr) (f : Str → Option V) : Prop :=
  ∃ es n, K.lookup a = some ⟨.type "dict", none, .dict es n, #[]⟩ ∧ PySem.W.KeysLit w.params es.toList ∧ (a == sysModules) = false ∧ ∀ x, RelO (f x) (findBy Value.isStrOf es x)
def tKGet (K : PySem.W.Frag) (w : World) (td ty : TE) : TE := fun σ H Q => td σ H fun x H1 => ∃ a f, x = .ref a ∧ KMap K w a f ∧ ty σ H1 fun y H2 => ∃ z, y = .str z ∧ Q ((f z).getD .non) H2
section
variable {X : Cx} {K : PySem.W.Frag} {o e : Expr} {apos cpos : Pos} {td ty : TE} {w : World}
theorem pe_kget (ho : PE X o td) (he : PE X e ty) (m : M1 X o "get" apos e cpos) (hK : X.K = K := by rfl) (hw : X.w = w := by rfl) : PE X (.Call (.Attribute o "get" apos) [e] [] cpos) (tKGet K w td ty) := by
  subst hK
  subst hw
  refine ⟨fun pins s σ H Q I h => wpAny_Call_method m.base m.few m.line PySem.F.plainAttrs_dict PySem.F.slot_dict_get PySem.F.type_dict_get (thn (ho.run pins s σ H _ I h) ?_)⟩
  rintro u s1 ⟨x, H1, I1, rx, a, f, rfl, ⟨es, n, hl, hk, low, hf⟩, q1⟩
  obtain rfl : u = Value.ref a := rx
  have hm := PySem.W.mapOf_K (prog := X.prog) (w := X.w) I1.kIn hl hk
  refine ⟨hm.typeIs, hm.noDict, ?_⟩
  rw [m.trees]
  refine Calls.callWith_builtin rfl (Calls.evalArgs_plain (Calls.spliced_cons (thn (he.run pins s1 σ H1 _ I1 q1) ?_)))
  rintro iv s2 ⟨y, H2, I2, ry, z, rfl, q2⟩
  obtain ⟨t, rfl⟩ := ry
  have hm2 := PySem.W.mapOf_K (prog := X.prog) (w := X.w) I2.kIn hl hk
  refine Calls.spliced_nil (call_meetsIn PySem.F.slot_dict_get hm2.typeIs PySem.F.entry_dict_get (PySem.F.args_dict_get_2 _ _) (meets_dict_get (strKind X.prog X.w) a (strKind_is X.prog X.w z t) low) ⟨_, hm2, ?_⟩)
  exact ⟨_, H2, I2.tok _, (hf z).getD (d := V.non) (d' := Value.none) rfl, q2⟩
/-- len of a list, a tuple or a text -/
def rLenA (K : PySem.W.Frag) : List V → Hp → VK → Prop := fun xs H Q => Evl.rLenS K xs H Q ∨ ∃ z, xs = [.str z] ∧ z.length ≤ sizeLine ∧ Q (.int z.length) H
theorem len_anyK (hK : X.K = K := by rfl) : CallR X (.builtin "len") (rLenA K) := by
  intro pins s σ H xs us Q I r h
  rcases h with h | h
  · exact len_seqK hK pins s σ H xs us Q I r h
  · exact call_len_str pins s σ H xs us Q I r h
theorem splitK : MtR X "str.split" (fun x xs H Q => ∃ a b, x = .str a ∧ xs = [.str b] ∧ (b.length == 0) = false ∧ a.length + 2 ≤ sizeLine ∧ rNewStrs (Txt.split a b) H Q) := mt_split
theorem indexDK (hu : X.A.units + 65 < cLine) (hK : X.K = K := by rfl) : MtR X "list.index" (rIndexD K) := hK ▸ mt_indexD hu
theorem inDK (hu : X.A.units + 65 < cLine) (hK : X.K = K := by rfl) : OpR X (compareOp .In) (rInD K) := hK ▸ op_inD hu
theorem pa_starK {es : List Expr} {te : TE} {t : TA} {p : Pos} (he : PE X e te) (hr : PA X es t) (hs : starEach (.Starred e p :: es) X.env = (true, eval e X.env) :: starEach es X.env := by rfl) (hK : X.K = K := by rfl) : PA X (.Starred e p :: es) (tStar K te t) := hK ▸ pa_star he hr hs
/-- repr of data, whatever its kind -/
def rReprA (K : PySem.W.Frag) : List V → Hp → VK → Prop := fun xs H Q => ∃ (v : V) (d : PyData), xs = [v] ∧ Dp K H v d ∧ d.showable = true ∧ d.hasDict = false ∧ d.depth ≤ 60 ∧ d.shown.length ≤ sizeLine ∧ Q (.str d.shown) H
theorem reprAK (hu : X.A.units + 64 < cLine) (hg : X.A.guards = some []) (hK : X.K = K := by rfl) : CallR X (.builtin "repr") (rReprA K) := by
  subst hK
  intro pins s σ H xs us Q I r h
  obtain ⟨v, d, rfl, hd, h1, h2, h3, h4, q⟩ := h
  have big : ∀ a : Addr, v = .ref a → wpAny (model X.prog X.w) X.A (call (.builtin "repr") us) (EP X pins σ Q) X.xe s := by
    rintro a rfl
    exact call_reprD hu hg pins s σ H _ us Q I r ⟨a, d, rfl, hd, h1, h2, h3, h4, q⟩
  cases hd with
  | non => exact call_reprS pins s σ H _ us Q I r (.inr (.inl ⟨rfl, q⟩))
  | bl b => exact call_reprS pins s σ H _ us Q I r (.inl ⟨b, rfl, q⟩)
  | int i => exact call_reprS pins s σ H _ us Q I r (.inr (.inr (.inr ⟨i, rfl, of_decide_eq_true h1, q⟩)))
  | str z => exact call_reprS pins s σ H _ us Q I r (.inr (.inr (.inl ⟨z, rfl, h4, q⟩)))
  | lst _ _ => exact big _ rfl
  | tup _ _ => exact big _ rfl
end
end Lk
/-! ### own classes: ==, !=, len, str by their own defs; making where errors are wished for at the caller's slots -/
namespace Lk
open PySem PySem.Spec PyProof.Rows L2 StX ClX
section
variable {prog : Program} {w : World} {A : Around} {E : Value → Shared → Prop} {s : Shared} {K : PySem.W.Frag} {x C f : Addr} {ox : Obj} {od : Option Obj} {b tb : Value}
/-- object.__ne__ where the class has an own __eq__ -/
theorem ne_entry {Q : Fin → Shared → Prop} (hu : A.units < cLine) (X : K.In s.heap) (I : PySem.W.InstAt s.heap x ox C od) (hs : PySem.W.findIn K (.ref C) "__eq__" = some (some (.ref f))) (hf : PySem.W.isFn K (.ref f) = true)
    (h : wpAny (model prog w) A (call (.ref f) [.ref x, b]) (fun v s' => ∃ r, v = .bool r ∧ Q (.done (.ret (.bool (!r)))) s') E s) : wpAny (model prog w) A (Builtin.«object.__ne__» ⟨[.ref x, b], []⟩) Q E s := by
  unfold Builtin.«object.__ne__»
  refine wpAny_bind (wpAny_pure ?_)
  refine wpAny_bind (wpAny_cRoomFor hu ?_)
  refine wpAny_bind (PySem.W.ifBound_K X I hs hf (wpAny_mono h (fun v s' z => ?_) fun _ _ z => z))
  obtain ⟨r, rfl, q⟩ := z
  exact wpAny_bind (wpAny_truthy_bool (wpAny_pure q))
theorem ne_bound {args : List Value} {M : Model} {Q : Option Value → Shared → Prop} (X : K.In s.heap) (I : PySem.W.InstAt s.heap x ox C od) (hs : PySem.W.findIn K (.ref C) "__ne__" = some (some (.builtin "object.__ne__")))
    (h : wpAny M A (call (.builtin "object.__ne__") (.ref x :: args)) (fun v => Q (some v)) E s) : wpAny M A (callSpecialIfBound? (.ref x) "__ne__" args) Q E s := by
  simp only [callSpecialIfBound?, bindSpecialIfBound?]
  refine wpAny_holding (wpAny_bind (wpAny_bind (wpAny_bind (I.type.here ((PySem.W.looks_findIn X hs).here ?_)))))
  refine wpAny_bind (wpAny_askSetting (wpAny_ite ?_))
  have last : wpAny M A (call (.builtin "object.__ne__") ([.ref x] ++ args) >>= fun v => pure (some v)) Q E s := wpAny_bind (wpAny_mono h (fun v s' z => wpAny_pure z) fun _ _ z => z)
  split
  · exact wpAny_bind (wpAny_of_eq (F.cmp_object.ne.bind _) (wpAny_pure last))
  · exact wpAny_tryCatch (wpAny_bind (wpAny_of_eq (F.cmp_object.ne.bind _) (wpAny_pure last)))
theorem ne_K (hu : A.units + 1 < cLine) (X : K.In s.heap) (I : PySem.W.InstAt s.heap x ox C od) (hb : PySem.W.Looks (model prog w) s.heap (typeOf b) tb) (hn : PySem.W.notFirst K C tb = true) (hm : PySem.W.mroIn K C (.type "object") = some true)
    (h1 : PySem.W.findIn K (.ref C) "__ne__" = some (some (.builtin "object.__ne__"))) (hs : PySem.W.findIn K (.ref C) "__eq__" = some (some (.ref f))) (hf : PySem.W.isFn K (.ref f) = true) {Q : Value → Shared → Prop}
    (h : wpAny (model prog w) A.in1 (call (.ref f) [.ref x, b]) (fun v s' => ∃ r, v = .bool r ∧ Q (.bool (!r)) s') E s) : wpAny (model prog w) A (richCompare .NotEq (.ref x) b) Q E s := by
  have one : wpAny (model prog w) A (tryCompare (.ref x) "__ne__" b) (fun r s' => ∃ v, r = some v ∧ Q v s') E s := by
    unfold tryCompare
    refine wpAny_bind (ne_bound X I h1 ?_)
    refine wpAny_call (codeAny_call_builtin F.cmp_object.ne.plain F.cmpEntry_ne (PySem.W.check_slot F.cmpKind_ne F.cmpSplit_ne (I.type.andThen (PySem.W.looks_mroIn X hm)) (F.cmpArgs_ne _ _) ?_))
    refine ne_entry (A := A.in1) (by exact hu) X I hs hf (wpAny_mono h (fun v s' z => ?_) fun _ _ z => z)
    obtain ⟨r, rfl, q⟩ := z
    exact ⟨r, rfl, wpAny_pure ⟨_, rfl, q⟩⟩
  unfold richCompare
  simp only [oneThing_ref]
  refine wpAny_holding (wpAny_bind (wpAny_cRoomFor (by omega) (wpAny_bind (I.type.here (wpAny_bind (hb.here ?_))))))
  have fin : ∀ {k : Option Value → Sem Value}, (∀ v, k (some v) = pure v) → wpAny (model prog w) A (tryCompare (.ref x) "__ne__" b >>= k) Q E s := fun hk => by
    refine wpAny_bind (wpAny_mono one (fun r s' z => ?_) fun _ _ z => z)
    obtain ⟨v, rfl, q⟩ := z
    rw [hk]; exact wpAny_pure q
  split
  · rename_i q
    have ns : PySem.W.subIn K tb (.ref C) = some false := (Bool.or_eq_true_iff.mp hn).elim (fun z => absurd (beq_iff_eq.mp z) (fun z => by rw [z] at q; simp at q)) fun z => beq_iff_eq.mp z
    refine wpAny_bind ((PySem.W.looks_subIn X ns).here ?_)
    simp only [Bool.false_eq_true, if_false]; exact fin fun _ => rfl
  · refine wpAny_bind (wpAny_pure ?_); simp only [Bool.false_eq_true, if_false]; exact fin fun _ => rfl
end
section
variable {X : Cx} {A' : Around} {k : Nat} {f C : Addr} {sp : Sp} {pins : List (Addr × Obj)} {σ : L2.St} {H : Hp} {s : Shared} {Q : VK} {us : List Value} {vs : List V}
/-- a def of the text, run within a built-in: nothing is raised -/
theorem run_at {Ex : Value → Shared → Prop} (F : FnR X.prog X.w X.K X.mg X.base L2.CX0 k f sp) (hr : Room k A') (hf : A'.frames = X.A.frames) (I : Inv X pins σ H s) (r : Vals vs us) (h : sp vs H Q (fun _ _ _ => False)) :
    wpAny (model X.prog X.w) A' (call (.ref f) us) (EP X pins σ Q) Ex s := by
  have e := I.env0
  have e0 : Env0 X.prog X.w X.K X.mg X.base A' X.stack s H := ⟨by rw [hf]; exact e.frames, e.mod, e.bs, e.bsz, e.funs, e.frf, e.hok, e.bare⟩
  refine wpAny_call (codeAny_mono (F A' X.stack s H us vs Q _ hr e0 r h) fun r s' hq => ?_)
  match r, hq with
  | .error e, hq => exact (show False from hq).elim
  | .ok (.ret u), hq => exact I.after hq
/-- == and != by an own __eq__ -/
def rOwn (K : PySem.W.Frag) (C : Addr) (sp : Sp) (neg : Bool) : R2 := fun x y H Q => ∃ a dx fs t, x = .ref a ∧ H a = some (.ins C dx fs) ∧ TyX K H y t ∧ PySem.W.notFirst K C t = true ∧
  sp [x, y] H (fun v H' => ∃ b, v = .bl b ∧ Q (.bl (if neg then !b else b)) H') fun _ _ _ => False
/-- what the text says of an own == -/
structure OwnEq (K : PySem.W.Frag) (C f : Addr) : Prop where
  eq : PySem.W.findIn K (.ref C) "__eq__" = some (some (.ref f))
  ne : PySem.W.findIn K (.ref C) "__ne__" = some (some (.builtin "object.__ne__"))
  fn : PySem.W.isFn K (.ref f) = true
  mr : PySem.W.mroIn K C (.type "object") = some true
theorem op_ownEq (F : FnR X.prog X.w X.K X.mg X.base L2.CX0 k f sp) (o : OwnEq X.K C f) (hr : Room k X.A) : OpR X (compareOp .Eq) (rOwn X.K C sp false) := by
  rintro pins s σ H x y u v Q I rx ry ⟨a, dx, fs, t, rfl, ha, ty, hn, q⟩
  cases rx
  obtain ⟨P, Z, p, _⟩ := kit_of I ry ty
  obtain ⟨mA, J, _⟩ := ins_get I.hok ha
  obtain ⟨od, J, _⟩ := J.look
  obtain ⟨m, hF⟩ := I.fr
  show wpAny (model X.prog X.w) X.A (richCompare .Eq (.ref a) v) (EP X pins σ Q) X.xe s
  refine PySem.W.cmp_K (op := .Eq) hr.units0 hF I.ok.mod.kin J (Z.ty _ _ I.kIn p) hn o.eq o.fn (wpAny_mono (run_at F hr rfl I (vs := [.ref a, y]) (.cons rfl (.cons ry .nil)) q) (fun w s' z => ?_) fun _ _ z => z)
  obtain ⟨v', H', I', rv, b, rfl, q'⟩ := z
  cases rv
  exact ⟨.bl b, H', I', rfl, q'⟩
theorem op_ownNe (F : FnR X.prog X.w X.K X.mg X.base L2.CX0 k f sp) (o : OwnEq X.K C f) (hr : Room (k + 1) X.A) : OpR X (compareOp .NotEq) (rOwn X.K C sp true) := by
  rintro pins s σ H x y u v Q I rx ry ⟨a, dx, fs, t, rfl, ha, ty, hn, q⟩
  cases rx
  obtain ⟨P, Z, p, _⟩ := kit_of I ry ty
  obtain ⟨mA, J, _⟩ := ins_get I.hok ha
  obtain ⟨od, J, _⟩ := J.look
  show wpAny (model X.prog X.w) X.A (richCompare .NotEq (.ref a) v) (EP X pins σ Q) X.xe s
  refine ne_K (by have := hr.units1; omega) I.kIn J (Z.ty _ _ I.kIn p) hn o.mr o.ne o.eq o.fn (wpAny_mono (run_at F hr.in1 rfl I (vs := [.ref a, y]) (.cons rfl (.cons ry .nil)) q) (fun w s' z => ?_) fun _ _ z => z)
  obtain ⟨v', H', I', rv, b, rfl, q'⟩ := z
  cases rv
  exact ⟨b, rfl, .bl (!b), H', I', rfl, q'⟩
theorem OpR.or_own {X : Cx} {o : Value → Value → Sem Value} {r1 r2 : R2} (h1 : OpR X o r1) (h2 : OpR X o r2) : OpR X o (fun x y H Q => r1 x y H Q ∨ r2 x y H Q) := fun pins s σ H x y v u Q I rx ry h =>
  h.elim (h1 pins s σ H x y v u Q I rx ry) (h2 pins s σ H x y v u Q I rx ry)
/-- len(o), str(o) by defs of the class -/
def rLenO (C : Addr) (sp : Sp) : List V → Hp → VK → Prop := fun xs H Q => ∃ a dx fs, xs = [.ref a] ∧ H a = some (.ins C dx fs) ∧ sp xs H (fun v H' => ∃ n : Int, v = .int n ∧ 0 ≤ n ∧ n < 2 ^ 63 ∧ Q v H') fun _ _ _ => False
theorem call_lenO (F : FnR X.prog X.w X.K X.mg X.base L2.CX0 k f sp) (hs : PySem.W.findIn X.K (.ref C) "__len__" = some (some (.ref f))) (hf : PySem.W.isFn X.K (.ref f) = true) (hr : Room (k + 1) X.A) : CallR X (.builtin "len") (rLenO C sp) := by
  rintro pins s σ H xs us Q I r ⟨a, dx, fs, rfl, ha, q⟩
  cases r with
  | cons r1 r2 =>
    cases r2
    cases r1
    obtain ⟨mA, J, _⟩ := ins_get I.hok ha
    obtain ⟨od, J, _⟩ := J.look
    obtain ⟨m, hF⟩ := I.fr
    refine PySem.W.len_K hF I.ok.mod.kin J hs hf (wpAny_mono (run_at F hr.in1 rfl I (vs := [.ref a]) (.cons rfl .nil) q) (fun w s' z => ?_) fun _ _ z => z)
    obtain ⟨v', H', I', rv, n, rfl, h0, h1, q'⟩ := z
    obtain ⟨t, rfl⟩ := rv
    exact ⟨⟨h0, h1⟩, .int n, H', I'.tok _, ⟨_, rfl⟩, q'⟩
def rStrO (C : Addr) (sp : Sp) : List V → Hp → VK → Prop := fun xs H Q => ∃ a dx fs, xs = [.ref a] ∧ H a = some (.ins C dx fs) ∧ sp xs H (fun v H' => ∃ z : Str, v = .str z ∧ Q v H') fun _ _ _ => False
theorem call_strO (F : FnR X.prog X.w X.K X.mg X.base L2.CX0 k f sp) (hs : PySem.W.findIn X.K (.ref C) "__str__" = some (some (.ref f))) (hf : PySem.W.isFn X.K (.ref f) = true) (hr : Room (k + 2) X.A) : CallR X (.type "str") (rStrO C sp) := by
  rintro pins s σ H xs us Q I r ⟨a, dx, fs, rfl, ha, q⟩
  cases r with
  | cons r1 r2 =>
    cases r2
    cases r1
    obtain ⟨mA, J, _⟩ := ins_get I.hok ha
    obtain ⟨od, J, _⟩ := J.look
    refine PySem.W.kso_call hr.in1.in1.units0 I.kIn J hs hf (wpAny_mono (run_at F hr.in1.in1 rfl I (vs := [.ref a]) (.cons rfl .nil) q) (fun w s' z => ?_) fun _ _ z => z)
    obtain ⟨v', H', I', rv, n, rfl, q'⟩ := z
    obtain ⟨t, rfl⟩ := rv
    exact ⟨.str n, H', I', ⟨_, rfl⟩, q'⟩
end
/-! ### instances made, classmethods called, where errors are wished for at the caller's slots -/
section
variable {X : Cx} {CX : CXT} {k i : Nat} {f C g p' : Addr} {mc : Value} {sp : Sp} {E : L2.St → XK} {x m : Str} {e o : Expr} {es : List Expr} {te ta : TE} {t : TA} {p sp_ pos apos : Pos} {pl : Sem Bool}
section
variable {pins : List (Addr × Obj)} {σ : L2.St} {H : Hp} {s : Shared} {Q : VK} {us : List Value} {vs : List V} {E1 : XK}
theorem run_fnRS (F : FnR X.prog X.w X.K X.mg X.base CX k f sp) (hr : Room k X.A) (hx : PassesAt CX X σ E1) (I : Inv X pins σ H s) (r : Vals vs us) (h : sp vs H Q E1) :
    codeAny (model X.prog X.w) X.A (.call (.ref f) ⟨us, []⟩) (fun r s' => match r with | .ok (.ret v) => EP X pins σ Q v s' | .ok _ => False | .error e => X.xe e s') s := by
  refine codeAny_mono (F X.A X.stack s H us vs Q E1 hr I.env0 r h) fun r s' hq => ?_
  match r, hq with
  | .error e, hq => exact hx pins H s e s' I hq
  | .ok (.ret u), hq => exact I.after hq
theorem run_makeS (M : Mk X.K C f) (F : FnR X.prog X.w X.K X.mg X.base CX k f sp) (hr : Room (k + 1) X.A) (hx : PassesAt CX X σ E1) (I : Inv X pins σ H s) (r : Vals vs us)
    (h : ∀ x dx, H x = none → H dx = none → dx ≠ x → sp (V.ref x :: vs) (upd (upd H dx (.own x)) x (.ins C dx [])) (fun v H2 => v = .non ∧ Q (.ref x) H2) E1) : wpAny (model X.prog X.w) X.A (call (.ref C) us) (EP X pins σ Q) X.xe s := by
  have n0 : H s.heap.objs.size = none := I.hok.fresh (Nat.le_refl _)
  have hq := h (s.heap.objs.size + 1) s.heap.objs.size (I.hok.fresh (Nat.le_succ _)) n0 (Nat.ne_of_lt (Nat.lt_succ_self _))
  have I2 := Inv.made (C := C) I
  refine wpAny_call (make_map (f := f) I.kIn M.makes M.init (beq_iff_eq.mp M.fn) (codeAny_mono (F _ X.stack _ _ (.ref (s.heap.objs.size + 1) :: us) (.ref (s.heap.objs.size + 1) :: vs) _ E1 (hr.make C us []) (I2.env0.make C us []) (.cons rfl r) hq) fun r s' hq' => ?_))
  match r, hq' with
  | .error e, hq' => exact hx pins _ _ e s' I2 hq'
  | .ok (.ret u), hq' =>
    obtain ⟨v, H', I3, rv, rfl, q⟩ := I2.after hq'
    exact ⟨rv, .ref (s.heap.objs.size + 1), H', I3, rfl, q⟩
theorem run_cmS {q : Addr} (F : FnR X.prog X.w X.K X.mg X.base CX k g sp) (hr : Room k X.A) (hx : PassesAt CX X σ E1) (I : Inv X ((q, PySem.W.methodObj (.ref g) (.ref C)) :: pins) σ H s) (r : Vals vs us) (h : sp (.ref C :: vs) H Q E1) :
    wpAny (model X.prog X.w) X.A (call (.ref q) us) (EP X pins σ Q) X.xe s :=
  thn (wpAny_call (PySem.W.method_call (pin_at I) (run_fnRS (us := .ref C :: us) (vs := .ref C :: vs) F hr hx I (.cons rfl r) h))) fun _ _ y => unpinE y
end
/-- C(e, ..): what is raised is wished for at the slots -/
def tMakeS (C : Addr) (sp : Sp) (E : L2.St → XK) (t : TA) : TE := fun σ H Q => t σ H fun vs H1 => ∀ x dx, H1 x = none → H1 dx = none → dx ≠ x → sp (V.ref x :: vs) (upd (upd H1 dx (.own x)) x (.ins C dx [])) (fun v H2 => v = .non ∧ Q (.ref x) H2) (E σ)
theorem pe_makeS (M : Mk X.K C f) (F : FnR X.prog X.w X.K X.mg X.base CX k f sp) (hr : Room (k + 1) X.A) (hg : Gl X x) (hm : X.mg x = some (.ref C)) (hx : ∀ σ, PassesAt CX X σ (E σ)) (ha : PA X (e :: es) t) (hdb : (x == ("__debug__" : Str)) = false := by decide)
    (he : starEach (e :: es) X.env = (false, eval e X.env) :: starEach es X.env := by rfl) (hpl : (backTo pos (starEach es X.env)).any (·.1) = false := by rfl) : PE X (.Call (.Name x p) (e :: es) [] pos) (tMakeS C sp E t) := by
  constructor
  intro pins s σ H Q I h
  refine wpAny_Call_Name_kw (ld_glob I hg hm (PySem.W.callWith_K (h₀ := X.base) I.ok.mod.kin M.kp (thn (ha.run pos pins s σ H _ I h) ?_) he hpl) hdb)
  rintro us s1 ⟨vs, H1, I1, r, q⟩
  exact ⟨I1.kIn, run_makeS M F hr (hx σ) I1 r q⟩
theorem pe_makeS0 (M : Mk X.K C f) (F : FnR X.prog X.w X.K X.mg X.base CX k f sp) (hr : Room (k + 1) X.A) (hg : Gl X x) (hm : X.mg x = some (.ref C)) (hx : ∀ σ, PassesAt CX X σ (E σ)) (hdb : (x == ("__debug__" : Str)) = false := by decide) :
    PE X (.Call (.Name x p) [] [] pos) (tMakeS C sp E tNil) := by
  constructor
  intro pins s σ H Q I h
  exact wpAny_Call_Name_kw (ld_glob I hg hm (PySem.W.callWith_K0 I.kIn M.kp (run_makeS (us := []) M F hr (hx σ) I .nil h)) hdb)
/-- c(*e), c a local name that holds the class at C -/
def tMakeL (i : Nat) (C : Addr) (sp : Sp) (E : L2.St → XK) (K : PySem.W.Frag) (te : TE) : TE := fun σ H Q => σ[i]? = some (some (.ref C)) ∧ te σ H fun y H1 => ∃ a vs, y = .ref a ∧ (SqT K H1 a vs ∨ SqL K H1 a vs) ∧
  ∀ x dx, H1 x = none → H1 dx = none → dx ≠ x → sp (V.ref x :: vs) (upd (upd H1 dx (.own x)) x (.ins C dx [])) (fun v H2 => v = .non ∧ Q (.ref x) H2) (E σ)
theorem pe_makeL (M : Mk X.K C f) (F : FnR X.prog X.w X.K X.mg X.base CX k f sp) (hr : Room (k + 1) X.A) (hN : X.N[i]? = some x) (hv : Vis X.env.scope x) (hx : ∀ σ, PassesAt CX X σ (E σ)) (he : PE X e te) (hdb : (x == ("__debug__" : Str)) = false := by decide) (hcd : (x == ("__classdict__" : Str)) = false := by decide)
    (hst : starEach [.Starred e sp_] X.env = [(true, eval e X.env)] := by rfl) : PE X (.Call (.Name x p) [.Starred e sp_] [] pos) (tMakeL i C sp E X.K te) := by
  constructor
  rintro pins s σ H Q I ⟨hs, ht⟩
  refine wpAny_Call_Name_kw (thn ((pe_var (pos := p) hN hv hdb hcd).run pins s σ H (fun v H1 => v = .ref C ∧ H1 = H) I ⟨.ref C, hs, rfl, rfl⟩) ?_)
  rintro u s1 ⟨v, H1, I1, r1, rfl, rfl⟩
  cases r1
  refine PySem.W.callWith_S (h₀ := X.base) I.ok.mod.kin M.kp (thn (he.run pins s1 σ _ _ I1 ht) ?_) hst
  rintro v s2 ⟨y, H2, I2, ry, a, xs, rfl, hxs, q⟩
  cases ry
  exact star_any I2 hxs fun us s3 I3 rv => ⟨I3.kIn, run_makeS M F hr (hx σ) I3 rv q⟩
/-- C.m(e, ..), m a classmethod of the class at C -/
def tCMethS (C : Addr) (sp : Sp) (E : L2.St → XK) (ta : TE) (t : TA) : TE := fun σ H Q => ta σ H fun x H1 => x = .ref C ∧ t σ H1 fun vs H2 => sp (.ref C :: vs) H2 Q (E σ)
theorem pe_cmethS (he : PE X o ta) (r : CRead X.K C mc) (c : CMet X.K C mc m p' g) (F : FnR X.prog X.w X.K X.mg X.base CX k g sp) (hr : Room k X.A) (hx : ∀ σ, PassesAt CX X σ (E σ)) (ha : PA X (e :: es) t)
    (hst : starEach (e :: es) X.env = (false, eval e X.env) :: starEach es X.env := by rfl) (hpl : (backTo pos (starEach es X.env)).any (·.1) = false := by rfl)
    (ht : eval (.Call (.Attribute o m apos) (e :: es) [] pos) X.env = (eval o X.env >>= fun ov => standAt apos.atName >>= fun _ => holding [ov] (getMethod ov m pl) >>= fun q => callWith pos q.1 q.2 (backTo pos (starEach (e :: es) X.env)) (backToKw pos (keywordEach [] X.env))) := by rfl) :
    PE X (.Call (.Attribute o m apos) (e :: es) [] pos) (tCMethS C sp E ta t) := by
  constructor
  intro pins s σ H Q I h
  refine PySem.W.methodCall_KW (pl := pl) (thn (he.run pins s σ H _ I h) ?_) ht
  rintro u s1 ⟨x, H1, I1, rx, rfl, q⟩
  cases rx
  refine getmethcm_ok I1 r c fun s2 I2 => callwith_cm I2 (base_none I1 (Nat.le_refl _)) c.fi (thn (ha.run pos _ s2 σ H1 _ I2 q) ?_) hst hpl
  rintro us s3 ⟨vs, H2, I3, rv, q2⟩
  exact ⟨⟨pin_at I3, I3.kIn⟩, run_cmS F hr (hx σ) I3 rv q2⟩
end
end Lk
/-! ### sets of texts: set(list or tuple of texts), sorted of one -/
namespace LkS
open PySem PySem.Spec PyProof.Rows L2 PySem.Froz
section
variable {P : Program} {w : World} {A : Around} {E : Value → Shared → Prop} {s : Shared} {a : Addr} {l : List Str}
theorem tail_keep {ep : Nat} {es1 : Array (Int × Value)} {t2 : SetTable} {b : Bool} (r : Ris t2.place.toList) : Ris (tailTx ep es1 t2 b).2.2.place.toList ∧ (tailTx ep es1 t2 b).2.2.led = t2.led := by
  unfold tailTx
  split
  · exact ⟨relayAll_ris t2 es1 _, relayAll_led t2 es1 _⟩
  · exact ⟨r, rfl⟩
theorem add_keep {D : SD} {h : Int} {v : Value} (r : Ris D.2.2.place.toList) : Ris (addTx h v D).2.2.place.toList ∧ (addTx h v D).2.2.led = D.2.2.led := by
  have r1 := layNew_ris D.2.2 D.1 h v r
  have l1 := layNew_led D.2.2 D.1 h v
  have r2 : Ris (if (layNew D.2.2 D.1 h v).2.1.plain = true then { (layNew D.2.2 D.1 h v).2.1 with plain := false } else (layNew D.2.2 D.1 h v).2.1).place.toList ∧
      (if (layNew D.2.2 D.1 h v).2.1.plain = true then { (layNew D.2.2 D.1 h v).2.1 with plain := false } else (layNew D.2.2 D.1 h v).2.1).led = D.2.2.led := by
    split <;> exact ⟨r1, l1⟩
  obtain ⟨q1, q2⟩ := tail_keep (ep := D.2.1) (es1 := (layNew D.2.2 D.1 h v).1) (b := (layNew D.2.2 D.1 h v).2.2.1) r2.1
  exact ⟨q1, q2.trans r2.2⟩
/-- at a stands a set, its members the texts l, each once -/
structure SetX (P : Program) (w : World) (h : Heap) (a : Addr) (l : List Str) : Prop where
  ex : ∃ D : SD, h.get? a = some (sObj "set" D) ∧ TxOk P w D l ∧ Ris D.2.2.place.toList ∧ (w.params.followText "set-order" = true ∨ D.2.2.led = true)
  nd : l.Nodup
theorem SetX.at {h h' : Heap} (R : SetX P w h a l) (k : ∀ o, h.get? a = some o → h'.get? a = some o) : SetX P w h' a l := let ⟨⟨D, q, r⟩, n⟩ := R; ⟨⟨D, k _ q, r⟩, n⟩
theorem SetX.new {h : Heap} (q : h.get? a = some { cls := .type "set", dict := none, data := .set #[] 0 (.fresh 0 0 (!w.params.followText "set-order")) }) : SetX P w h a [] := by
  refine ⟨⟨(#[], 0, .fresh 0 0 (!w.params.followText "set-order")), q, TxOk.nil (by rfl), List.Pairwise.nil, ?_⟩, List.nodup_nil⟩
  show _ ∨ (!w.params.followText "set-order") = true
  cases w.params.followText "set-order" <;> simp
/-- a text that is in is laid again: nothing changes -/
theorem add_old {T : String} {D : SD} {k : Str} {u : Tok} {Q : Bool → Shared → Prop} (ho : s.heap.get? a = some (sObj T D)) (F : TxOk P w D l) (hk : k ∈ l) (hb : l.length < scanBound) (h : Q false s) : wpAny (model P w) A (setAddHashed a (.str k u) (hashStr w k)) Q E s := by
  obtain ⟨es, ep, t⟩ := D
  have q0 : (sObj T (es, ep, t)).data = .set es ep t := rfl
  have q1 : es.size < scanBound := by rw [show es.size = l.length from F.sz]; exact hb
  unfold setAddHashed setAddHashedIn
  refine wpAny_holding (wpAny_bind (wpAny_setState_of ho q0 F.fit ?_))
  dsimp only; rw [byScan_of rfl q1 F.el]; simp only [↓reduceIte]
  unfold setAddByScan
  refine wpAny_bind (wpAny_bind (wpAny_rule (wpAny_bind (wpAny_setScan_of (knd := PySem.strKind P w) (k := k) (is_str k u) ho q0 F.fit F.el ?_))))
  cases q2 : List.findIdx? (fun e => (PySem.strKind P w).is k e.2) es.toList with
  | some j => dsimp only; exact wpAny_pure (wpAny_pure h)
  | none =>
    obtain ⟨e, q3, q4⟩ := (F.mem k).mp hk
    have q5 := List.findIdx?_eq_none_iff.mp q2 e q3
    rw [q4] at q5
    cases q5
theorem setX_add {k : Str} {u : Tok} {Q : Bool → Shared → Prop} (R : SetX P w s.heap a l) (room : l.length + 1 < scanBound)
    (hQ : ∀ b h' l', Heap.SameBut a s.heap h' → SetX P w h' a l' → (∀ x, x ∈ l' ↔ x ∈ l ∨ x = k) → l'.length ≤ l.length + 1 → Q b { s with heap := h' }) : wpAny (model P w) A (setAddHashed a (.str k u) (hashStr w k)) Q E s := by
  obtain ⟨⟨D, q, F, r, ld⟩, nd⟩ := R
  by_cases hk : k ∈ l
  · exact add_old q F hk (by omega) (hQ false s.heap l (Heap.SameBut.refl a s.heap) ⟨⟨D, q, F, r, ld⟩, nd⟩ (fun x => ⟨.inl, fun z => z.elim id fun z => z ▸ hk⟩) (Nat.le_succ _))
  · refine add_x q F hk room (hQ true _ (k :: l) (Heap.SameBut.update s.heap a _) ⟨⟨_, get_upd _ q rfl, add_ok u F, (add_keep r).1, ld.imp id fun z => (add_keep r).2.trans z⟩, List.nodup_cons.mpr ⟨hk, nd⟩⟩ (fun x => ?_) (Nat.le_refl _))
    rw [List.mem_cons]; exact Or.comm
end
section
variable {P : Program} {w : World} {A : Around} {E : Value → Shared → Prop} {s : Shared}
theorem upd_texts {I : Addr} {fp wr : List Addr} {G : Array GenState → Array GenState → Prop} {n : Nat} {Pv : Nat → Value → Prop} {St : Nat → Shared → Prop} {R : Result → Shared → Prop}
    (W : WalksS P w A.in1 I fp wr G n Pv St) (S : Addr) (hSf : S ∉ fp) (xs : List Str) (hn : n = xs.length) (hb : xs.length + 1 < scanBound) (hval : ∀ i v, Pv i v → ∃ k t, xs[i]? = some k ∧ v = .str k t) :
    ∀ (k i : Nat) (s : Shared), n - i = k → i ≤ n → St i s → (∃ l, l.length ≤ i ∧ (∀ x, x ∈ l ↔ x ∈ xs.take i) ∧ SetX P w s.heap S l) →
      (∀ s' l, Moved (S :: wr) G s s' → l.length ≤ n → (∀ x, x ∈ l ↔ x ∈ xs) → SetX P w s'.heap S l → R (.ok (.ret .none)) s') → codeAny (model P w) A (.builtin "set.update.loop" ⟨[.ref S, .ref I], []⟩) R s := by
  have nw : S ∉ wr := fun z => hSf (W.sub _ z)
  have lift : ∀ b ∈ wr, b ∈ S :: wr := fun _ z => List.mem_cons_of_mem _ z
  have here : ∀ {s1 s2 : Shared} {l : List Str}, Moved wr G s1 s2 → SetX P w s1.heap S l → SetX P w s2.heap S l := fun m q => q.at fun o e => m.heap S o nw e
  intro k
  induction k with
  | zero =>
    rintro i s h1 h2 st ⟨l, c1, c2, c3⟩ hR
    have e0 : i = n := by omega
    refine codeAny_builtin PyProof.Rows.F.entry_set_update_loop ?_
    rw [Around.under_plainId PyProof.Rows.F.plain_set_update_loop _]
    show wpAny _ A.in1 (pyNext (.ref I) >>= _) _ _ s
    subst e0
    refine wpAny_bind (W.done s _ _ st fun s1 m => ?_)
    have e1 : xs.take i = xs := List.take_of_length_le (by omega)
    exact wpAny_pure (hR s1 l (m.mono lift) c1 (fun x => by rw [c2, e1]) (here m c3))
  | succ k ih =>
    rintro i s h1 h2 st ⟨l, c1, c2, c3⟩ hR
    have lt : i < n := by omega
    refine codeAny_builtin PyProof.Rows.F.entry_set_update_loop ?_
    rw [Around.under_plainId PyProof.Rows.F.plain_set_update_loop _]
    show wpAny _ A.in1 (pyNext (.ref I) >>= _) _ _ s
    refine wpAny_bind (W.item i s _ _ lt st fun v s1 pv st1 m => ?_)
    obtain ⟨z, t, q1, rfl⟩ := hval i v pv
    show wpAny _ A.in1 (holding [Value.str z t] (setAdd S (.str z t)) >>= _) _ _ s1
    refine wpAny_bind (wpAny_holding ?_)
    unfold setAdd
    refine wpAny_holding (wpAny_bind ((PySem.strKind P w).pyHash (k := z) (is_str z t) ?_))
    refine setX_add (s := { s1 with toks := s1.toks + 1 }) (show SetX P w s1.heap S l from here m c3) (by omega) fun b h' l' sb q2 q3 q4 => ?_
    have far : ∀ c o, c ≠ S → s1.heap.get? c = some o → h'.get? c = some o := fun c o ne e => by rw [sb.2 c ne]; exact e
    refine wpAny_pure ⟨plainId_quiet PyProof.Rows.F.plain_set_update_loop _, ih (i + 1) _ (by omega) lt (W.frame _ s1 _ _ st1 (Nat.le_succ _) fun c hc o e => far c o (fun z => hSf (z ▸ hc)) e) ⟨l', by omega, fun x => ?_, q2⟩ fun s2 l2 m2 d1 d2 d3 => ?_⟩
    · rw [q3, c2, List.take_add_one, q1]
      simp
    · exact hR s2 l2 (Moved.trans W.gtrans ((m.mono lift).then_heap (Nat.le_succ _) fun c o hc e => far c o (fun z => hc (by rw [z]; exact List.mem_cons_self)) e) m2) d1 d2 d3
theorem texts_get : ∀ {vs : List Value} {xs : List Str} {i : Nat} {v : Value}, StrsAre vs xs → vs[i]? = some v → ∃ k t, xs[i]? = some k ∧ v = .str k t
  | _, _, i, v, .nil, h => by simp at h
  | _, _, 0, v, .cons n t r, h => by simp at h; exact ⟨n, t, rfl, h.symm⟩
  | _, _, i + 1, v, .cons n t r, h => by simpa using texts_get (i := i) r (by simpa using h)
abbrev setO (w : World) : Obj := { cls := .type "set", dict := none, data := .set #[] 0 (.fresh 0 0 (!w.params.followText "set-order")) }
set_option maxHeartbeats 3200000 in
/-- set(list of texts) -/
theorem set_of_list {l : Addr} {items : Array Value} (xs : List Str) {Q : Value → Shared → Prop} (hh : A.handled = none) (hl : s.heap.IsList l items) (hit : StrsAre items.toList xs) (hb : xs.length + 1 < scanBound)
    (h : ∀ (h' : Heap) (tk : Nat) (m : List Str), SetX P w h' s.heap.objs.size m → m.length ≤ xs.length → (∀ x, x ∈ m ↔ x ∈ xs) → (∀ b o, s.heap.get? b = some o → h'.get? b = some o) → Q (.ref s.heap.objs.size) { s with heap := h', toks := tk }) :
    wpAny (model P w) A (call (.type "set") [.ref l]) Q E s := by
  have len0 : items.size = xs.length := by rw [← StrsAre.len_eq hit, Array.length_toList]
  obtain ⟨c, tl, hmro⟩ := PySem.F.called_set.mro
  have q1 := PySem.F.called_set.made; have q2 := PySem.F.called_set.sub
  refine wpAny_call (codeAny_of_tree ?_); show wpAny _ _ (callAny (.type "set") _) _ _ _
  refine wpAny_pure ⟨Code.quiet_builtin _ (by decide +kernel), codeAny_builtin PySem.F.entry_type_call ?_⟩
  rw [Around.under_plain (weight_type_call_type "set" [.ref l] []) rfl]
  have q3 := PySem.F.called_set.notType; have q4 := PySem.F.called_set.canCreate; have q5 := PySem.F.typeCall_set_1 (.ref l)
  repeat (any_goals (first | assumption | wp_step))
  refine codeAny_mono (L2.code_set_led1 (.ref l) (E := E) (Q₁ := fun r t => r = .ref s.heap.objs.size ∧ t = { s with heap := s.heap.push (setO w) }) ⟨rfl, rfl⟩) fun r t hr => ?_
  match r, hr with
  | .error e, hr => exact hr
  | .ok (.ret obj), hr =>
    obtain ⟨rfl, rfl⟩ := hr
    have at0 : (s.heap.push (setO w)).get? s.heap.objs.size = some (setO w) := Heap.get?_push_size _ rfl
    have ty0 : Shared.TypeIs { s with heap := s.heap.push (setO w) } (.ref s.heap.objs.size) "set" := ⟨_, at0, rfl⟩
    have q6 := PySem.F.called_set.init.lookup; have q7 := PySem.F.called_set.init.bind (.ref s.heap.objs.size)
    repeat (any_goals (first | assumption | wp_step))
    refine codeAny_mono (codeAny_call_builtin (R := wants (fun r t => r = .none ∧ ∃ h' tk m, t = { s with heap := h', toks := tk } ∧ SetX P w h' s.heap.objs.size m ∧ m.length ≤ xs.length ∧ (∀ x, x ∈ m ↔ x ∈ xs) ∧ (∀ b o, s.heap.get? b = some o → h'.get? b = some o)) E)
      PySem.F.called_set.init.plain PySem.F.entry_set_init (check_set_init_1 ty0 ?_)) fun r t hr => ?_
    · obtain ⟨⟨oc, od, dt, sl⟩, e1, e2, n, e3⟩ := hl
      simp only at e2 e3; subst e2; subst e3
      have e4 : (s.heap.push (setO w)).get? l = some { cls := .type "list", dict := od, data := .seq items n, slots := sl } := Heap.get?_push_of_some _ e1
      have q8 := PySem.F.sub_list_set; have q9 := PySem.F.sub_list_frozenset
      have q10 : (Value.type "list" == Value.type "dict") = false := by decide
      have e5 : (s.heap.push (setO w)).IsList l items := ⟨_, e4, rfl, n, rfl⟩
      unfold Builtin.«set.__init__» noKeywords Builtin.Frozenset.updateFrom
      generalize hPI : pyIter = PI; wp_walk; subst hPI
      refine wpAny_pyIter_list e5 (wpAny_bind (wpAny_runValue ?_))
      have lo : l < s.heap.objs.size := Heap.lt_size e1
      have sz : (s.heap.push (setO w)).objs.size = s.heap.objs.size + 1 := Heap.size_push ..
      have n1 : l ≠ (s.heap.push (setO w)).objs.size := by rw [sz]; exact Nat.ne_of_lt (Nat.lt_succ_of_lt lo)
      have n2 : s.heap.objs.size ∉ [(s.heap.push (setO w)).objs.size, l] := by
        rw [sz]; simp only [List.mem_cons, List.not_mem_nil, or_false, not_or]; exact ⟨Nat.ne_of_lt (Nat.lt_succ_self _), Nat.ne_of_gt lo⟩
      refine upd_texts ((Walks.list (by simp [hh]) _ l n1 items).toS) s.heap.objs.size n2 xs len0 hb (fun i v hv => ?_) (items.size - 0) 0 _ (by omega) (Nat.zero_le _) ⟨⟨_, Heap.get?_push_size _ rfl, rfl, rfl⟩, (e5.push _)⟩ ⟨[], Nat.le_refl 0, fun x => by simp, .new (Heap.get?_push_of_some _ at0)⟩ ?_
      · have lt : i < xs.length := by rw [← len0]; exact (Array.getElem?_eq_some_iff.mp hv).1
        exact texts_get hit (by rw [Array.getElem?_toList]; exact hv)
      · rintro ⟨h', g, d, tk, os⟩ m mv c1 c2 c3
        cases (show g = s.gens from mv.gens); cases (show d = s.drawn from mv.drawn); cases (show os = s.os from mv.os)
        refine wpAny_pure (wpAny_pure ⟨rfl, h', tk, m, rfl, c3, by omega, c2, fun b o e => mv.heap b o ?_ (Heap.get?_push_of_some _ (Heap.get?_push_of_some _ e))⟩)
        have lb := Heap.lt_size e
        rw [sz]; simp only [List.mem_cons, List.not_mem_nil, or_false, not_or]; exact ⟨Nat.ne_of_lt lb, Nat.ne_of_lt (Nat.lt_succ_of_lt lb)⟩
    · match r, hr with
      | .error e, hr => exact hr
      | .ok (.ret r), hr =>
        obtain ⟨rfl, h', tk, m, rfl, c1, c2, c3, c4⟩ := hr
        repeat (any_goals (first | assumption | wp_step))
        exact h _ _ _ c1 c2 c3 c4
set_option maxHeartbeats 3200000 in
/-- set(tuple of texts) -/
theorem set_of_tuple {l : Addr} {items : Array Value} (xs : List Str) {Q : Value → Shared → Prop} (hh : A.handled = none) (hl : s.heap.IsTuple l items) (hit : StrsAre items.toList xs) (hb : xs.length + 1 < scanBound)
    (h : ∀ (h' : Heap) (tk : Nat) (m : List Str), SetX P w h' s.heap.objs.size m → m.length ≤ xs.length → (∀ x, x ∈ m ↔ x ∈ xs) → (∀ b o, s.heap.get? b = some o → h'.get? b = some o) → Q (.ref s.heap.objs.size) { s with heap := h', toks := tk }) :
    wpAny (model P w) A (call (.type "set") [.ref l]) Q E s := by
  have len0 : items.size = xs.length := by rw [← StrsAre.len_eq hit, Array.length_toList]
  obtain ⟨c, tl, hmro⟩ := PySem.F.called_set.mro
  have q1 := PySem.F.called_set.made; have q2 := PySem.F.called_set.sub
  refine wpAny_call (codeAny_of_tree ?_); show wpAny _ _ (callAny (.type "set") _) _ _ _
  refine wpAny_pure ⟨Code.quiet_builtin _ (by decide +kernel), codeAny_builtin PySem.F.entry_type_call ?_⟩
  rw [Around.under_plain (weight_type_call_type "set" [.ref l] []) rfl]
  have q3 := PySem.F.called_set.notType; have q4 := PySem.F.called_set.canCreate; have q5 := PySem.F.typeCall_set_1 (.ref l)
  repeat (any_goals (first | assumption | wp_step))
  refine codeAny_mono (L2.code_set_led1 (.ref l) (E := E) (Q₁ := fun r t => r = .ref s.heap.objs.size ∧ t = { s with heap := s.heap.push (setO w) }) ⟨rfl, rfl⟩) fun r t hr => ?_
  match r, hr with
  | .error e, hr => exact hr
  | .ok (.ret obj), hr =>
    obtain ⟨rfl, rfl⟩ := hr
    have at0 : (s.heap.push (setO w)).get? s.heap.objs.size = some (setO w) := Heap.get?_push_size _ rfl
    have ty0 : Shared.TypeIs { s with heap := s.heap.push (setO w) } (.ref s.heap.objs.size) "set" := ⟨_, at0, rfl⟩
    have q6 := PySem.F.called_set.init.lookup; have q7 := PySem.F.called_set.init.bind (.ref s.heap.objs.size)
    repeat (any_goals (first | assumption | wp_step))
    refine codeAny_mono (codeAny_call_builtin (R := wants (fun r t => r = .none ∧ ∃ h' tk m, t = { s with heap := h', toks := tk } ∧ SetX P w h' s.heap.objs.size m ∧ m.length ≤ xs.length ∧ (∀ x, x ∈ m ↔ x ∈ xs) ∧ (∀ b o, s.heap.get? b = some o → h'.get? b = some o)) E)
      PySem.F.called_set.init.plain PySem.F.entry_set_init (check_set_init_1 ty0 ?_)) fun r t hr => ?_
    · obtain ⟨⟨oc, od, dt, sl⟩, e1, e2, n, e3⟩ := hl
      simp only at e2 e3; subst e2; subst e3
      have e4 : (s.heap.push (setO w)).get? l = some { cls := .type "tuple", dict := od, data := .seq items n, slots := sl } := Heap.get?_push_of_some _ e1
      have q8 := PySem.F.sub_tuple_set; have q9 := PySem.F.sub_tuple_frozenset
      have q10 : (Value.type "tuple" == Value.type "dict") = false := by decide
      have e5 : (s.heap.push (setO w)).IsTuple l items := ⟨_, e4, rfl, n, rfl⟩
      unfold Builtin.«set.__init__» noKeywords Builtin.Frozenset.updateFrom
      generalize hPI : pyIter = PI; wp_walk; subst hPI
      refine wpAny_pyIter_tuple e5 (wpAny_bind (wpAny_runValue ?_))
      have lo : l < s.heap.objs.size := Heap.lt_size e1
      have sz : (s.heap.push (setO w)).objs.size = s.heap.objs.size + 1 := Heap.size_push ..
      have n1 : l ≠ (s.heap.push (setO w)).objs.size := by rw [sz]; exact Nat.ne_of_lt (Nat.lt_succ_of_lt lo)
      have n2 : s.heap.objs.size ∉ [(s.heap.push (setO w)).objs.size, l] := by
        rw [sz]; simp only [List.mem_cons, List.not_mem_nil, or_false, not_or]; exact ⟨Nat.ne_of_lt (Nat.lt_succ_self _), Nat.ne_of_gt lo⟩
      refine upd_texts ((Walks.tuple (by simp [hh]) _ l n1 items).toS) s.heap.objs.size n2 xs len0 hb (fun i v hv => ?_) (items.size - 0) 0 _ (by omega) (Nat.zero_le _) ⟨⟨_, Heap.get?_push_size _ rfl, rfl, rfl⟩, (e5.push _)⟩ ⟨[], Nat.le_refl 0, fun x => by simp, .new (Heap.get?_push_of_some _ at0)⟩ ?_
      · have lt : i < xs.length := by rw [← len0]; exact (Array.getElem?_eq_some_iff.mp hv).1
        exact texts_get hit (by rw [Array.getElem?_toList]; exact hv)
      · rintro ⟨h', g, d, tk, os⟩ m mv c1 c2 c3
        cases (show g = s.gens from mv.gens); cases (show d = s.drawn from mv.drawn); cases (show os = s.os from mv.os)
        refine wpAny_pure (wpAny_pure ⟨rfl, h', tk, m, rfl, c3, by omega, c2, fun b o e => mv.heap b o ?_ (Heap.get?_push_of_some _ (Heap.get?_push_of_some _ e))⟩)
        have lb := Heap.lt_size e
        rw [sz]; simp only [List.mem_cons, List.not_mem_nil, or_false, not_or]; exact ⟨Nat.ne_of_lt lb, Nat.ne_of_lt (Nat.lt_succ_of_lt lb)⟩
    · match r, hr with
      | .error e, hr => exact hr
      | .ok (.ret r), hr =>
        obtain ⟨rfl, h', tk, m, rfl, c1, c2, c3, c4⟩ := hr
        repeat (any_goals (first | assumption | wp_step))
        exact h _ _ _ c1 c2 c3 c4
end
end LkS
/-! ### sorted of a set of texts; the rule over the hand layer -/
namespace LkS
open PySem PySem.Spec PyProof.Rows L2 PySem.Froz
section
variable {P : Program} {w : World} {A : Around} {E : Value → Shared → Prop} {s : Shared} {a : Addr} {l : List Str}
theorem texts_of : ∀ vs : List Value, (∀ v ∈ vs, ∃ x t, v = Value.str x t) → ∃ xs, StrsAre vs xs
  | [], _ => ⟨[], .nil⟩
  | v :: r, h => by
    obtain ⟨x, t, rfl⟩ := h v List.mem_cons_self
    obtain ⟨xs, q⟩ := texts_of r fun v hv => h v (List.mem_cons_of_mem _ hv)
    exact ⟨x :: xs, .cons x t q⟩
theorem texts_mem {vs : List Value} {xs : List Str} (h : StrsAre vs xs) (x : Str) : x ∈ xs ↔ ∃ t, Value.str x t ∈ vs := by
  induction h with
  | nil => simp
  | cons n t r ih =>
    rw [List.mem_cons, ih]
    constructor
    · rintro (rfl | ⟨u, h⟩)
      · exact ⟨t, List.mem_cons_self⟩
      · exact ⟨u, List.mem_cons_of_mem _ h⟩
    · rintro ⟨u, h⟩
      rcases List.mem_cons.mp h with h | h
      · cases h; exact .inl rfl
      · exact .inr ⟨u, h⟩
theorem perm_of : ∀ {l xs : List Str}, l.Nodup → xs.length = l.length → (∀ x, x ∈ l → x ∈ xs) → xs.Perm l
  | [], xs, _, hl, _ => by rw [List.length_eq_zero_iff.mp hl]
  | x :: r, xs, n, hl, h => by
    obtain ⟨n1, n2⟩ := List.nodup_cons.mp n
    have hx := h x List.mem_cons_self
    refine (List.perm_cons_erase hx).trans (.cons x (perm_of n2 ?_ fun y hy => ?_))
    · rw [List.length_erase_of_mem hx, hl]; rfl
    · exact (List.mem_erase_of_ne (fun z : y = x => n1 (by rw [← z]; exact hy))).mpr (h y (List.mem_cons_of_mem _ hy))
theorem sorted_setX {Q : Value → Shared → Prop} (R : SetX P w s.heap a l) (hh : A.handled = none) (room : l.length < scanBound)
    (hQ : ∀ s' p (out : Array Value) (c : Nat) (ys : List Str), (∀ b o, s.heap.get? b = some o → s'.heap.get? b = some o) → s'.gens = s.gens → s'.os = s.os → s.heap.objs.size ≤ p → s'.heap.get? p = some (seqObj "list" out c) →
      StrsAre out.toList ys → ys.Perm l → sortedS ys = true → Q (.ref p) s') : wpAny (model P w) A (call (.builtin "sorted") [.ref a]) Q E s := by
  obtain ⟨⟨⟨es, ep, t⟩, q, F, r, ld⟩, nd⟩ := R
  have sz : es.size = l.length := F.sz
  refine Calls.call_function_entry kind_sorted plain_sorted entry_sorted (args_sorted1 _) ?_
  unfold Builtin.«sorted»
  refine wpAny_bind (m := checkCount "sorted" 1 1 _) (wpAny_pure ?_)
  refine wpAny_bind (collect_set (A := A.in1) hh ⟨_, q, rfl, rfl⟩ F.fit (by rw [show (es, ep, t).1.size = es.size from rfl, sz]; exact room) r ld fun s1 vs k1 z1 g1 o1 pm => ?_)
  obtain ⟨xs, hx⟩ := texts_of vs fun v hv => by
    obtain ⟨e, he, rfl⟩ := List.mem_map.mp (pm.mem_iff.mp hv)
    obtain ⟨⟨k, h1, _⟩, _⟩ := F.el e he
    have h2 : Value.isStrOf k e.2 = true := h1
    cases hv2 : e.2 <;> rw [hv2] at h2 <;> first | exact ⟨_, _, rfl⟩ | (cases h2; done)
  have vl : vs.length = l.length := by rw [pm.length_eq, List.length_map, Array.length_toList]; exact sz
  have xl : xs.length = l.length := by rw [← StrsAre.len_eq hx]; exact vl
  have pl : xs.Perm l := perm_of nd xl fun x hm => by
    obtain ⟨e, he, h1⟩ := (F.mem x).mp hm
    have h2 : Value.isStrOf x e.2 = true := h1
    rw [texts_mem hx]
    have h3 : e.2 ∈ vs := pm.mem_iff.mpr (List.mem_map.mpr ⟨e, he, rfl⟩)
    cases hv2 : e.2 <;> rw [hv2] at h2 h3 <;> first | (cases h2; done) | skip
    rename_i y u
    have : y = x := eq_of_beq h2
    subst this
    exact ⟨u, h3⟩
  have big : vs.length ≤ sizeLine := by rw [vl]; unfold scanBound at room; rw [sizeLine_eq]; omega
  refine wpAny_bind (wpAny_newList ?_ big)
  have lay : (s1.heap.push (seqObj "list" vs.toArray 0)).get? s1.heap.objs.size = some (seqObj "list" vs.toArray 0) := Heap.get?_push_size _ rfl
  refine wpAny_bind (wpAny_holding (wpAny_call_entry slot_list_sort ⟨_, lay, rfl⟩ entry_list_sort (list_sort_treeKAny strKind_oneLt lay hx.keysOf (fun v₁ v₂ rest e => keyKind_strs (by rw [← e]; exact hx)) big fun st' hp hs => ⟨_, rfl, ?_⟩) (args_list_sort _)))
  obtain ⟨ys, c1, c2, c3⟩ := sorted_out_str hx hp hs
  obtain ⟨c, hc⟩ := sortedHeap_at (vs := vs) (out := (arrOf st').map (·.2)) lay
  refine wpAny_pure ⟨_, rfl, hQ _ s1.heap.objs.size _ c ys (fun b u e => ?_) g1 o1 z1 hc c1 (c2.trans pl) c3⟩
  have lt := Heap.lt_size (k1 b u e)
  show (sortedHeap (s1.heap.push (seqObj "list" vs.toArray 0)) s1.heap.objs.size vs _).get? b = some u
  rw [sortedHeap_old (Nat.ne_of_lt lt) (by rw [size_push']; exact Nat.lt_succ_of_lt lt)]
  exact Heap.get?_push_of_some _ (k1 b u e)
end
/-! ### the rules -/
def SetXO (P : Program) (w : World) (a : Addr) (l : List Str) : HO := .ext fun h => SetX P w h a l
theorem setXO_new {P : Program} {w : World} {H : Hp} {h : Heap} {a : Addr} {l : List Str} (R : SetX P w h a l) : ObjOk P w H h a (SetXO P w a l) :=
  ⟨R, let ⟨⟨_, q, _⟩, _⟩ := R; ⟨_, q⟩, fun h1 h2 z k => SetX.at z k⟩
section
variable {X : Cx}
/-- set(x), x a list or a tuple of texts -/
def rSetX (K : PySem.W.Frag) (P : Program) (w : World) : List V → Hp → VK → Prop := fun xs H Q => ∃ (a : Addr) (ts : List Str), xs = [.ref a] ∧ (SqL K H a (ts.map V.str) ∨ SqT K H a (ts.map V.str)) ∧ ts.length + 1 < scanBound ∧
  ∀ (p : Addr) (l : List Str), H p = none → l.Nodup → l.length ≤ ts.length → (∀ x, x ∈ l ↔ x ∈ ts) → Q (.ref p) (upd H p (SetXO P w p l))
theorem cr_setX (hc : X.calm = true) : CallR X (.type "set") (rSetX X.K X.prog X.w) := by
  rintro pins s σ H xs us Q I r ⟨a, ts, rfl, hs, hb, q⟩
  rw [Vals.ref1 r]
  have hn : H s.heap.objs.size = none := I.hok.fresh (Nat.le_refl _)
  have fin : ∀ (h' : Heap) (tk : Nat) (m : List Str), SetX X.prog X.w h' s.heap.objs.size m → m.length ≤ ts.length → (∀ x, x ∈ m ↔ x ∈ ts) → (∀ b o, s.heap.get? b = some o → h'.get? b = some o) → EP X pins σ Q (.ref s.heap.objs.size) { s with heap := h', toks := tk } := fun h' tk m R c1 c2 k =>
    ⟨.ref s.heap.objs.size, upd H s.heap.objs.size (SetXO X.prog X.w s.heap.objs.size m), I.laid (t' := tk) k (Nat.le_refl _) (setXO_new R), rfl, q _ m hn R.nd c1 c2⟩
  rcases hs with h | h
  · obtain ⟨its, rv, pl, _⟩ := I.list h
    exact set_of_list ts (I.ok.hd hc) pl.isList rv.strs hb fin
  · obtain ⟨its, rv, it, _⟩ := I.tuple h
    exact set_of_tuple ts (I.ok.hd hc) it rv.strs hb fin
/-- sorted(s), s such a set -/
def rSortedX (P : Program) (w : World) : List V → Hp → VK → Prop := fun vs H Q => ∃ (a : Addr) (l : List Str), vs = [.ref a] ∧ H a = some (SetXO P w a l) ∧ l.length < scanBound ∧
  ∀ (ys : List Str) (p : Addr), ys.Perm l → sortedS ys = true → H p = none → Q (.ref p) (upd H p (.lst (ys.map V.str)))
theorem cr_sortedX (hc : X.calm = true) : CallR X (.builtin "sorted") (rSortedX X.prog X.w) := by
  rintro pins s σ H vs us Q I r ⟨a, l, rfl, ha, hb, q⟩
  have R : SetX X.prog X.w s.heap a l := (I.hok a _ ha).1
  rw [Vals.ref1 r]
  refine sorted_setX R (I.ok.hd hc) hb fun s' p out c ys k g o hp at1 hout pm st => ?_
  have hn : H p = none := I.hok.fresh hp
  have fits : (ys.map V.str).length ≤ sizeLine := by rw [List.length_map, pm.length_eq, sizeLine_eq]; unfold scanBound at hb; omega
  have ok : HOk X.prog X.w (upd H p (.lst (ys.map V.str))) s'.heap := I.hok.laid k hp ⟨fits, out.toList, c, vals_of_strs hout, at1⟩
  exact ⟨.ref p, upd H p (.lst (ys.map V.str)), I.call' (ch := []) o (Un.laid k hp hn) ok (by rw [g]; exact I.bare) (fun _ z => nomatch z), rfl, q ys p pm st hn⟩
end
end LkS
/-! ### t[::-1], t a tuple -/
namespace LkR
open PySem PySem.Spec PyProof.Rows L2 HT
section
variable {prog : Program} {w : World} {A : Around} {E : Value → Shared → Prop} {s : Shared}
theorem app_back {sl : Addr} {vs : Value} {n : Nat} {Q : Int × Int × Nat → Shared → Prop} (hs : s.heap.IsSliceOf sl .none .none vs) (ps : IsPart vs (some (-1))) (h : Q ((n : Int) - 1, -1, n) s) :
    wpAny (model prog w) A (Builtin.Slice.sliceApplied (.ref sl) (pure (n : Int))) Q E s := by
  obtain ⟨os, hos, _, hds⟩ := id hs
  unfold Builtin.Slice.sliceApplied Builtin.Slice.sliceFields
  refine wpAny_bind (wpAny_bind (wpAny_field hos hds (x := .none) rfl (wpAny_bind (wpAny_field hos hds (x := .none) rfl (wpAny_bind (wpAny_field hos hds (x := vs) rfl (wpAny_pure ?_)))))))
  refine wpAny_bind (slicePart_ ps ?_)
  show wpAny _ _ (if ((-1 : Int) == 0) = true then _ else _) _ _ s
  rw [if_neg (by decide)]
  refine wpAny_bind (slicePart_none (wpAny_bind (slicePart_none (wpAny_bind (wpAny_pure ?_)))))
  have e1 : Builtin.Slice.sliceAdjust none none (-1) (n : Int) = ((n : Int) - 1, -1) := by
    unfold Builtin.Slice.sliceAdjust
    simp
  have e2 : Builtin.Slice.slicePlaces ((n : Int) - 1) (-1) (-1) = n := by
    unfold Builtin.Slice.slicePlaces
    have h1 : ¬ ((-1 : Int) > 0) := by decide
    have h2 : ((n : Int) - 1 - -1 - 1) / - -1 = (n : Int) - 1 := by rw [show (- -1 : Int) = 1 by decide, Int.ediv_one]; omega
    simp only [h1, if_false, h2]
    split <;> omega
  show wpAny _ _ (match Builtin.Slice.sliceAdjust none none (-1) (n : Int) with | (lo, hi) => pure (lo, (-1 : Int), Builtin.Slice.slicePlaces lo hi (-1))) _ _ s
  rw [e1]
  show wpAny _ _ (pure ((n : Int) - 1, (-1 : Int), Builtin.Slice.slicePlaces ((n : Int) - 1) (-1) (-1))) _ _ s
  rw [e2]; exact wpAny_pure h
theorem pick_back (xs : Array Value) : ((List.range xs.size).filterMap fun (k : Nat) => xs[((xs.size : Int) - 1 + (k : Int) * -1).toNat]?).toArray = xs.toList.reverse.toArray := by
  congr 1
  apply List.ext_getElem?
  intro i
  have e : ((List.range xs.size).filterMap fun (k : Nat) => xs[((xs.size : Int) - 1 + (k : Int) * -1).toNat]?) = (List.range xs.size).map fun k => xs.toList.getD (xs.size - 1 - k) .none := by
    have key : ∀ l : List Nat, (∀ k ∈ l, k < xs.size) → (l.filterMap fun (k : Nat) => xs[((xs.size : Int) - 1 + (k : Int) * -1).toNat]?) = l.map fun k => xs.toList.getD (xs.size - 1 - k) .none := by
      intro l
      induction l with
      | nil => intro _; rfl
      | cons k l ih =>
        intro hl
        have hk := hl k List.mem_cons_self
        have e1 : ((xs.size : Int) - 1 + (k : Int) * -1).toNat = xs.size - 1 - k := by omega
        have e2 : xs.size - 1 - k < xs.size := by omega
        rw [List.filterMap_cons, e1, List.map_cons, ← ih fun k hk => hl k (List.mem_cons_of_mem _ hk)]
        simp [e2]
    exact key _ fun k hk => List.mem_range.mp hk
  rw [e]
  by_cases hi : i < xs.size
  · rw [List.getElem?_map, List.getElem?_range hi, List.getElem?_reverse (by simpa using hi)]
    have e2 : xs.size - 1 - i < xs.size := by omega
    simp [e2]
  · rw [List.getElem?_eq_none (by simp; omega), List.getElem?_eq_none (by simp; omega)]
theorem get_back {t sl : Addr} {items : Array Value} {vs : Value} {Q : Value → Shared → Prop} (ht : IsTup s.heap t items) (hs : s.heap.IsSliceOf sl .none .none vs) (ps : IsPart vs (some (-1))) (hsz : items.size ≤ sizeLine)
    (h : Q (.ref s.heap.objs.size) { s with heap := s.heap.push { cls := .type "tuple", data := .seq items.toList.reverse.toArray } }) : wpAny (model prog w) A (getItem (.ref t) (.ref sl)) Q E s := by
  have fit : sizeOk (.seq items.toList.reverse.toArray) := by
    show items.toList.reverse.toArray.size ≤ sizeLine
    simpa using hsz
  obtain ⟨os, hos, hcs, hds⟩ := id hs
  unfold getItem
  try with_reducible refine wpAny_holding ?_
  first | refine wpAny_bind (wpAny_pure ?_) | skip
  refine wpAny_bind (wpAny_sequenceKey ht.typeIs (by decide) (wpAny_bind (wpAny_callSpecial?_slot (name := Str.ofString "__getitem__") ht.typeIs slot_tuple_getitem (wpAny_call_entry slot_tuple_getitem ht.typeIs entry_tuple_getitem ?_ (args_tuple_getitem _ _)))))
  show wpAny _ _ (Builtin.Tuple.tupleItemsOf (.ref t) >>= _) _ _ s
  refine wpAny_bind (tupleItemsOf_ ht (wpAny_bind (wpAny_typeOf ⟨os, hos, hcs⟩ ?_)))
  rw [if_pos (by decide)]
  refine wpAny_bind (app_back hs ps ?_)
  show wpAny _ _ (if (((items.size : Int) - 1 == 0 && (-1 : Int) == 1 && items.size == items.size) = true) then _ else _) _ _ s
  rw [if_neg (by simp), pick_back]
  first
    | exact wpAny_bind (m := Builtin.Tuple.tupleExact _) (wpAny_newObj_type (wpAny_pure ⟨_, rfl, wpAny_pure h⟩) fit)
    | exact wpAny_bind (m := Builtin.Tuple.tupleExact _) (wpAny_newObj_type (wpAny_bind (wpAny_pure (wpAny_pure ⟨_, rfl, wpAny_pure h⟩))) fit)
    | exact wpAny_bind (wpAny_bind (m := Builtin.Tuple.tupleExact _) (wpAny_newObj_type (wpAny_pure (wpAny_pure ⟨_, rfl, wpAny_pure h⟩)) fit))
    | exact wpAny_bind (wpAny_bind (m := Builtin.Tuple.tupleExact _) (wpAny_newObj_type (wpAny_pure ⟨_, rfl, wpAny_pure h⟩) fit))
end
def tRevT (K : PySem.W.Frag) (te : TE) : TE := fun σ H Q => te σ H fun x H1 => ∃ a xs, x = .ref a ∧ SqT K H1 a xs ∧ ∀ p, H1 p = none → Q (.ref p) (upd H1 p (.tup xs.reverse))
theorem pe_revT {X : Cx} {e : Expr} {te : TE} {k : Nat} {p1 p2 p3 pos : Pos} (he : PE X e te) : PE X (.Subscript e (.Slice none none (some (.UnaryOp .USub (.Constant (.int 1) k p1) p2)) p3) pos) (tRevT X.K te) := by
  constructor
  intro pins s σ H Q I h
  refine Subscript_ (thn (he.run pins s σ H _ I h) ?_)
  rintro v s1 ⟨x, H1, I1, r1, a, xs, rfl, hx, q⟩
  cases r1
  have hst : PO X (some (.UnaryOp .USub (.Constant (.int 1) k p1) p2)) (tPart (tUn (rU fun i => .int (-i)) (tC (.int 1)))) := po_some (pe_un un_neg pe_int)
  refine wpAny_Slice (thn (po_none.run pins s1 σ H1 (fun o H2 => o = none ∧ H2 = H1) I1 ⟨rfl, rfl⟩) ?_)
  rintro vl s2 ⟨l, H2, I2, pl, rfl, rfl⟩
  refine thn (po_none.run pins s2 σ H2 (fun o H3 => o = none ∧ H3 = H2) I2 ⟨rfl, rfl⟩) ?_
  rintro vu s3 ⟨u, H3, I3, pu, rfl, rfl⟩
  refine thn (hst.run pins s3 σ H3 (fun o H4 => o = some (-1) ∧ H4 = H3) I3 ⟨1, rfl, -1, rfl, rfl, rfl⟩) ?_
  rintro vs s4 ⟨o, H4, I4, ps, rfl, rfl⟩
  cases pl
  cases pu
  have I5 : Inv X pins σ H4 { s4 with heap := s4.heap.push { cls := .type "slice", data := .fields #[.none, .none, vs] } } := I4.kept (t' := s4.toks) fun b ob q => Heap.get?_push_of_some _ q
  obtain ⟨its, r, ht, hz⟩ := I5.tuple hx
  have hlen := r.length
  refine tail_any (ops := [.ref a, .ref s4.heap.objs.size]) ht.typeIs slot_tuple_getitem.lookup ?_ (by with_unfolding_all rfl)
  refine get_back ht (Heap.IsSliceOf.new _ .none .none vs) ps (by rw [List.size_toArray]; omega) ?_
  refine ⟨.ref _, _, I5.laid (t' := s4.toks) (o := .tup xs.reverse) (fun b ob q => Heap.get?_push_of_some _ q) (Nat.le_refl _) ?_, rfl, q _ (I5.hok.fresh (Nat.le_refl _))⟩
  exact ⟨by rw [List.length_reverse]; exact hz, its.reverse, r.reverse, _, Heap.get?_push_size _ rfl, rfl, _, rfl⟩
end LkR
/-! ### == and != of two lists of unlike length -/
namespace LkL
open PySem PySem.Spec PyProof.Rows L2
theorem ne_lens (l : Addr) (items : Array Value) (n : Nat) (b : Addr) (items2 : Array Value) (n2 : Nat) (hc : (items.size != items2.size) = true) :
    Meets (Builtin.«list.__ne__» ⟨[.ref l, .ref b], []⟩) (fun _ R s => s.heap.get? l = some { cls := .type "list", dict := none, data := .seq items n, slots := #[] } ∧ s.heap.get? b = some { cls := .type "list", dict := none, data := .seq items2 n2, slots := #[] } ∧ R (.ok (.ret (Value.bool true))) s) :=
  .of_wp fun prog w A R s h => by
    obtain ⟨hp, g, d, tk, os⟩ := s
    obtain ⟨h1, h2, h⟩ := h
    have f3 := AutoSeq1.sub_list_list
    wp_walk using wpAny_loadPart' h1, wpAny_loadPart' h2
    exact ⟨_, rfl, h⟩
section
variable {X : Cx}
def rEqLen : R2 := fun x y H Q => ∃ a b xs ys, x = .ref a ∧ y = .ref b ∧ H a = some (.lst xs) ∧ H b = some (.lst ys) ∧ xs.length ≠ ys.length ∧ Q (.bl false) H
theorem op_eqLen (hu : X.A.units < cLine) : OpR X (compareOp .Eq) rEqLen := by
  rintro pins s σ H x y u v Q I rx ry ⟨a, b, xs, ys, rfl, rfl, ha, hb, ne, q⟩
  cases rx
  cases ry
  obtain ⟨z, its, k, r, e⟩ := I.hok a _ ha
  obtain ⟨z2, its2, k2, r2, e2⟩ := I.hok b _ hb
  have sz : (its.toArray.size != its2.toArray.size) = true := by
    rw [List.size_toArray, List.size_toArray, ← r.length, ← r2.length]
    simpa using ne
  show wpAny (model X.prog X.w) X.A (richCompare .Eq (.ref a) (.ref b)) (EP X pins σ Q) X.xe s
  refine wpAny_richCompare_same_room (op := .Eq) ⟨_, e, rfl⟩ ⟨_, e2, rfl⟩ PySem.F.slot_list_eq ?_ hu
  exact wpAny_mono (call_meets PySem.F.slot_list_eq ⟨_, e, rfl⟩ PySem.F.entry_list_eq (PySem.F.args_list_eq_2 _ _) (AutoSeq1.list___eq___list_list_0 a its.toArray k b its2.toArray k2 sz) ⟨e, e2, ⟨rfl, rfl⟩⟩ (Q := fun v s' => v = .bool false ∧ s' = s)) (fun v s' z => by
    obtain ⟨rfl, rfl⟩ := z
    exact ⟨(fun z => nomatch z), V.bl false, H, I, rfl, q⟩) fun _ _ z => z
def rNeLen : R2 := fun x y H Q => ∃ a b xs ys, x = .ref a ∧ y = .ref b ∧ H a = some (.lst xs) ∧ H b = some (.lst ys) ∧ xs.length ≠ ys.length ∧ Q (.bl true) H
theorem op_neLen (hu : X.A.units < cLine) : OpR X (compareOp .NotEq) rNeLen := by
  rintro pins s σ H x y u v Q I rx ry ⟨a, b, xs, ys, rfl, rfl, ha, hb, ne, q⟩
  cases rx
  cases ry
  obtain ⟨z, its, k, r, e⟩ := I.hok a _ ha
  obtain ⟨z2, its2, k2, r2, e2⟩ := I.hok b _ hb
  have sz : (its.toArray.size != its2.toArray.size) = true := by
    rw [List.size_toArray, List.size_toArray, ← r.length, ← r2.length]
    simpa using ne
  show wpAny (model X.prog X.w) X.A (richCompare .NotEq (.ref a) (.ref b)) (EP X pins σ Q) X.xe s
  refine wpAny_richCompare_same_room (op := .NotEq) ⟨_, e, rfl⟩ ⟨_, e2, rfl⟩ PySem.F.slot_list_ne ?_ hu
  exact wpAny_mono (call_meets PySem.F.slot_list_ne ⟨_, e, rfl⟩ PySem.F.entry_list_ne (PySem.F.args_list_ne_2 _ _) (ne_lens a its.toArray k b its2.toArray k2 sz) ⟨e, e2, ⟨rfl, rfl⟩⟩ (Q := fun v s' => v = .bool true ∧ s' = s)) (fun v s' z => by
    obtain ⟨rfl, rfl⟩ := z
    exact ⟨(fun z => nomatch z), V.bl true, H, I, rfl, q⟩) fun _ _ z => z
end
end LkL
/-! ### tuple(text) -/
namespace LkU
open PySem PySem.Spec PyProof.Rows L2 HT Lk
variable {X : Cx}
def rTupS : List V → Hp → VK → Prop := fun xs H Q => ∃ z : Str, xs = [.str z] ∧ z.length ≤ sizeLine ∧ ∀ l, H l = none → Q (.ref l) (upd H l (.tup (z.cps.toList.map fun c => .str (sgn c))))
theorem call_tup_str (hc : X.calm = true) : CallR X (.type "tuple") rTupS := by
  intro pins s σ H xs us Q I r h
  obtain ⟨z, rfl, hz, q⟩ := h
  obtain ⟨u, rfl, ru⟩ := Vals.one r
  obtain ⟨t, rfl⟩ := ru
  refine PySem.call_tuple_str (I.ok.hd hc) z t (fun h' tk acc hk hacc => ?_) hz
  have hv := items_vals hacc
  have hn : (z.cps.toList.map fun c => V.str (sgn c)).length ≤ sizeLine := by rw [List.length_map, Array.length_toList]; exact hz
  have J : Inv X pins σ H { s with heap := h', toks := tk } := I.kept (t' := tk) hk
  have ob : ObjOk X.prog X.w (upd H h'.objs.size (.tup (z.cps.toList.map fun c => .str (sgn c)))) (h'.push { cls := .type "tuple", data := .seq acc }) h'.objs.size (.tup (z.cps.toList.map fun c => .str (sgn c))) :=
    ⟨hn, acc.toList, hv, by simpa using IsTup.new h' acc⟩
  exact ⟨.ref h'.objs.size, _, J.laid (t' := tk) (fun b o e => Heap.get?_push_of_some _ e) (Nat.le_refl _) ob, rfl, q _ (J.hok.fresh (Nat.le_refl _))⟩
end LkU
/-! ### the pure layer: values without addresses -/
namespace Pu
open PySem PySem.Spec PyProof.Rows L2 Lk Evl

/-- a value of the program, all that it holds written out -/
inductive D where
  | non | bl (b : Bool) | int (i : Int) | str (x : Str) | ty (n : String) | cls (C : Str)
  /-- lst: a list that is tracked; sl: one that is but read (the script) -/
  | tup (ds : List D) | lst (ds : List D) | sl (ds : List D) | dct (ks vs : List D) | obj (C : Str) (ns : List Str) (vs : List D)
  /-- an exception that is caught, at a, its dict -/
  | exc (a : Addr) (C : Str) (dx : Option Addr) (ns : List Str) (vs : List D)

/-- what a law's text fixes -/
structure Gx where
  K : PySem.W.Frag
  cl : Str → Addr
  /-- is a class of exceptions caught by another one -/
  sub : Str → Str → Option Bool
  /-- the tables of code objects of defs that make lambdas -/
  tabs : List (Addr × Str)
  hsub : ∀ C D b, sub C D = some b → PySem.W.exmOne K (.ref (cl C)) (.ref (cl D)) = some b

/-- no table -/
def NoT (o : HO) : Prop := ∀ ps, o ≠ .tbl ps
theorem noT_lst {xs : List V} : NoT (.lst xs) := fun _ z => by cases z
/-- the heap without the cells that are owned, without tables -/
def Fz (M : List Addr) (H : Hp) : Hp := fun b => if b ∈ M then none else match H b with
  | some (.tbl _) => none
  | o => o
theorem fz_of3 {M : List Addr} {H : Hp} {b : Addr} {o : HO} (h : Fz M H b = some o) : b ∉ M ∧ H b = some o ∧ NoT o := by
  unfold Fz at h
  by_cases hb : b ∈ M
  · rw [if_pos hb] at h; cases h
  · rw [if_neg hb] at h
    split at h
    · cases h
    · rename_i n
      exact ⟨hb, h, fun ps z => n ps (by rw [h, z])⟩
theorem fz_of {M : List Addr} {H : Hp} {b : Addr} {o : HO} (h : Fz M H b = some o) : b ∉ M ∧ H b = some o := ⟨(fz_of3 h).1, (fz_of3 h).2.1⟩
theorem fz_no {M : List Addr} {H : Hp} {b : Addr} {o : HO} (h : Fz M H b = some o) : NoT o := (fz_of3 h).2.2
theorem fz_in {M : List Addr} {H : Hp} {b : Addr} {o : HO} (hb : b ∉ M) (h : H b = some o) (ht : NoT o := by intro _ z; cases z) : Fz M H b = some o := by
  unfold Fz
  rw [if_neg hb, h]
  split
  · rename_i ps e
    exact absurd (Option.some.inj e) (ht _)
  · rfl
theorem fz_ex (M : List Addr) (H : Hp) : Ex (Fz M H) H := fun b o h => (fz_of h).2
theorem fz_anti {M M' : List Addr} {H : Hp} (h : ∀ a ∈ M, a ∈ M') : Ex (Fz M' H) (Fz M H) := fun b o e =>
  let ⟨n, q, t⟩ := fz_of3 e; fz_in (fun z => n (h b z)) q t

/-- a dict at a: its keys and values in order (further kinds: later files) -/
def DctAt (G : Gx) (H : Hp) (a : Addr) (ks vs : List V) : Prop :=
  ∃ kvs : List (Key × V), Rd H a (.dK kvs) ∧ ks = kvs.map (fun p => kV p.1) ∧ vs = kvs.map (·.2)
theorem rd_ex {H H' : Hp} {a : Addr} {u : HO} (e : Ex H H') (h : Rd H a u) : Rd H' a u := by
  rcases h with h | ⟨o, h⟩
  · exact .inl (e _ _ h)
  · exact .inr ⟨o, e _ _ h⟩
theorem DctAt.ex {G : Gx} {H H' : Hp} {a : Addr} {ks vs : List V} (e : Ex H H') (h : DctAt G H a ks vs) : DctAt G H' a ks vs := by
  obtain ⟨kvs, h1, h2, h3⟩ := h
  exact ⟨kvs, rd_ex e h1, h2, h3⟩
theorem sqL_ex {K : PySem.W.Frag} {H H' : Hp} {a : Addr} {xs : List V} (e : Ex H H') (h : SqL K H a xs) : SqL K H' a xs := by
  rcases h with h | h
  · exact .inl (rd_ex e h)
  · exact .inr h
theorem sqT_ex {K : PySem.W.Frag} {H H' : Hp} {a : Addr} {xs : List V} (e : Ex H H') (h : SqT K H a xs) : SqT K H' a xs := by
  rcases h with h | h
  · exact .inl (rd_ex e h)
  · exact .inr h

mutual
/-- v is the value d in H -/
inductive R (G : Gx) (H : Hp) : V → D → Prop
  | non : R G H .non .non
  | bl (b : Bool) : R G H (.bl b) (.bl b)
  | int (i : Int) : R G H (.int i) (.int i)
  | str (x : Str) : R G H (.str x) (.str x)
  | ty (n : String) : R G H (.ty n) (.ty n)
  | cls (C : Str) : R G H (.ref (G.cl C)) (.cls C)
  | tup {a : Addr} {xs : List V} {ds : List D} : SqT G.K H a xs → RAll G H xs ds → R G H (.ref a) (.tup ds)
  | lst {a : Addr} {xs : List V} {ds : List D} : H a = some (.lst xs) → RAll G H xs ds → R G H (.ref a) (.lst ds)
  | sl {a : Addr} {xs : List V} {ds : List D} : SqL G.K H a xs → RAll G H xs ds → R G H (.ref a) (.sl ds)
  | dct {a : Addr} {xs ys : List V} {ks vs : List D} : DctAt G H a xs ys → RAll G H xs ks → RAll G H ys vs → R G H (.ref a) (.dct ks vs)
  | obj {a dx : Addr} {C : Str} {fs : List (Str × V)} {ns : List Str} {ds : List D} : H a = some (.ins (G.cl C) dx fs) → fs.map (·.1) = ns → RAll G H (fs.map (·.2)) ds → R G H (.ref a) (.obj C ns ds)
  | exc0 (a : Addr) (C : Str) : R G H (.ref a) (.exc a C none [] [])
  | exc1 {a d : Addr} {C : Str} {fs : List (Str × V)} {ns : List Str} {ds : List D} : H d = some (.xd fs) → fs.map (·.1) = ns → RAll G H (fs.map (·.2)) ds → R G H (.ref a) (.exc a C (some d) ns ds)
inductive RAll (G : Gx) (H : Hp) : List V → List D → Prop
  | nil : RAll G H [] []
  | cons {v : V} {vs : List V} {d : D} {ds : List D} : R G H v d → RAll G H vs ds → RAll G H (v :: vs) (d :: ds)
end
section
variable {G : Gx} {H H' : Hp}
mutual
theorem R.ex (e : Ex H H') : ∀ {v : V} {d : D}, R G H v d → R G H' v d
  | _, _, .non => .non
  | _, _, .bl b => .bl b
  | _, _, .int i => .int i
  | _, _, .str x => .str x
  | _, _, .ty n => .ty n
  | _, _, .cls C => .cls C
  | _, _, .tup h t => .tup (sqT_ex e h) (RAll.ex e t)
  | _, _, .lst h t => .lst (e _ _ h) (RAll.ex e t)
  | _, _, .sl h t => .sl (sqL_ex e h) (RAll.ex e t)
  | _, _, .dct h t u => .dct (h.ex e) (RAll.ex e t) (RAll.ex e u)
  | _, _, .obj h n t => .obj (e _ _ h) n (RAll.ex e t)
  | _, _, .exc0 a C => .exc0 a C
  | _, _, .exc1 h n t => .exc1 (e _ _ h) n (RAll.ex e t)
theorem RAll.ex (e : Ex H H') : ∀ {vs : List V} {ds : List D}, RAll G H vs ds → RAll G H' vs ds
  | _, _, .nil => .nil
  | _, _, .cons h t => .cons (R.ex e h) (RAll.ex e t)
end
theorem RAll.len : ∀ {vs : List V} {ds : List D}, RAll G H vs ds → vs.length = ds.length
  | _, _, .nil => rfl
  | _, _, .cons _ t => by rw [List.length_cons, List.length_cons, t.len]
theorem RAll.get : ∀ {vs : List V} {ds : List D} {i : Nat} {d : D}, RAll G H vs ds → ds[i]? = some d → ∃ v, vs[i]? = some v ∧ R G H v d
  | _, _, _, _, .nil, h => by simp at h
  | _, _, 0, d, .cons h _, e => by simp at e; subst e; exact ⟨_, rfl, h⟩
  | _, _, i + 1, d, .cons _ t, e => by
    obtain ⟨v, h1, h2⟩ := RAll.get (i := i) (d := d) t (by simpa using e)
    exact ⟨v, by simpa using h1, h2⟩
theorem RAll.get' : ∀ {vs : List V} {ds : List D} {i : Nat} {v : V}, RAll G H vs ds → vs[i]? = some v → ∃ d, ds[i]? = some d ∧ R G H v d
  | _, _, _, _, .nil, h => by simp at h
  | _, _, 0, v, .cons h _, e => by simp at e; subst e; exact ⟨_, rfl, h⟩
  | _, _, i + 1, v, .cons _ t, e => by
    obtain ⟨d, h1, h2⟩ := RAll.get' (i := i) (v := v) t (by simpa using e)
    exact ⟨d, by simpa using h1, h2⟩
theorem RAll.app : ∀ {vs us : List V} {ds es : List D}, RAll G H vs ds → RAll G H us es → RAll G H (vs ++ us) (ds ++ es)
  | _, _, _, _, .nil, u => u
  | _, _, _, _, .cons h t, u => .cons h (t.app u)
theorem RAll.take : ∀ {vs : List V} {ds : List D} (n : Nat), RAll G H vs ds → RAll G H (vs.take n) (ds.take n)
  | _, _, 0, _ => .nil
  | _, _, _ + 1, .nil => .nil
  | _, _, n + 1, .cons h t => .cons h (t.take n)
theorem RAll.drop : ∀ {vs : List V} {ds : List D} (n : Nat), RAll G H vs ds → RAll G H (vs.drop n) (ds.drop n)
  | _, _, 0, t => t
  | _, _, _ + 1, .nil => .nil
  | _, _, n + 1, .cons h t => t.drop n
theorem RAll.set {v : V} {d : D} (h : R G H v d) : ∀ {vs : List V} {ds : List D} (n : Nat), RAll G H vs ds → RAll G H (vs.set n v) (ds.set n d)
  | _, _, _, .nil => .nil
  | _, _, 0, .cons _ t => .cons h t
  | _, _, n + 1, .cons a t => .cons a (t.set h n)
theorem RAll.rev {vs : List V} {ds : List D} (t : RAll G H vs ds) : RAll G H vs.reverse ds.reverse := by
  induction vs generalizing ds with
  | nil => cases t; exact .nil
  | cons v vs ih =>
    cases t with
    | cons h t => rw [List.reverse_cons, List.reverse_cons]; exact (ih t).app (.cons h .nil)
theorem RAll.of_get : ∀ {vs : List V} {ds : List D}, vs.length = ds.length → (∀ (i : Nat) (v : V) (d : D), vs[i]? = some v → ds[i]? = some d → R G H v d) → RAll G H vs ds
  | [], [], _, _ => .nil
  | [], _ :: _, h, _ => by simp at h
  | _ :: _, [], h, _ => by simp at h
  | v :: vs, d :: ds, h, f => .cons (f 0 v d rfl rfl) (RAll.of_get (by simpa using h) fun i v d e1 e2 => f (i + 1) v d (by simpa using e1) (by simpa using e2))
/-- a text, a list of texts: told by the values alone -/
theorem R.str_inv {v : V} {x : Str} (h : R G H v (.str x)) : v = .str x := by cases h; rfl
theorem R.int_inv {v : V} {i : Int} (h : R G H v (.int i)) : v = .int i := by cases h; rfl
theorem R.bl_inv {v : V} {b : Bool} (h : R G H v (.bl b)) : v = .bl b := by cases h; rfl
theorem R.non_inv {v : V} (h : R G H v .non) : v = .non := by cases h; rfl
theorem R.tup_inv {v : V} {ds : List D} (h : R G H v (.tup ds)) : ∃ a xs, v = .ref a ∧ SqT G.K H a xs ∧ RAll G H xs ds := by cases h with | tup a b => exact ⟨_, _, rfl, a, b⟩
theorem R.lst_inv {v : V} {ds : List D} (h : R G H v (.lst ds)) : ∃ a xs, v = .ref a ∧ H a = some (.lst xs) ∧ RAll G H xs ds := by cases h with | lst a b => exact ⟨_, _, rfl, a, b⟩
theorem R.sl_inv {v : V} {ds : List D} (h : R G H v (.sl ds)) : ∃ a xs, v = .ref a ∧ SqL G.K H a xs ∧ RAll G H xs ds := by cases h with | sl a b => exact ⟨_, _, rfl, a, b⟩
theorem RAll.strs_inv : ∀ {xs : List Str} {vs : List V}, RAll G H vs (xs.map D.str) → vs = xs.map V.str
  | [], _, t => by cases t; rfl
  | x :: xs, _, t => by
    rw [List.map_cons] at t
    cases t with | cons h t => rw [h.str_inv, t.strs_inv]; rfl
theorem RAll.ints_inv : ∀ {xs : List Int} {vs : List V}, RAll G H vs (xs.map D.int) → vs = xs.map V.int
  | [], _, t => by cases t; rfl
  | x :: xs, _, t => by
    rw [List.map_cons] at t
    cases t with | cons h t => rw [h.int_inv, t.ints_inv]; rfl
theorem RAll.bls_inv : ∀ {xs : List Bool} {vs : List V}, RAll G H vs (xs.map D.bl) → vs = xs.map V.bl
  | [], _, t => by cases t; rfl
  | x :: xs, _, t => by
    rw [List.map_cons] at t
    cases t with | cons h t => rw [h.bl_inv, t.bls_inv]; rfl
theorem RAll.of_strs : ∀ (xs : List Str), RAll G H (xs.map V.str) (xs.map D.str)
  | [] => .nil
  | x :: xs => .cons (.str x) (RAll.of_strs xs)
theorem RAll.of_ints : ∀ (xs : List Int), RAll G H (xs.map V.int) (xs.map D.int)
  | [] => .nil
  | x :: xs => .cons (.int x) (RAll.of_ints xs)
theorem RAll.of_bls : ∀ (xs : List Bool), RAll G H (xs.map V.bl) (xs.map D.bl)
  | [] => .nil
  | x :: xs => .cons (.bl x) (RAll.of_bls xs)
end
/-- no address in it -/
def D.flat : D → Bool
  | .non | .bl _ | .int _ | .str _ | .ty _ | .cls _ => true
  | _ => false
theorem R.flat {G : Gx} {H H' : Hp} {v : V} {d : D} (h : R G H v d) (f : d.flat = true) : R G H' v d := by
  cases h <;> first | (constructor; done) | cases f

/-! ### plain data -/
mutual
def D.py : D → Option PyData
  | .non => some .none
  | .bl b => some (.bool b)
  | .int i => some (.int i)
  | .str x => some (.str x)
  | .tup ds => (D.pys ds).map .tuple
  | .lst ds => (D.pys ds).map .list
  | _ => none
def D.pys : List D → Option (List PyData)
  | [] => some []
  | d :: ds => match d.py, D.pys ds with
    | some p, some ps => some (p :: ps)
    | _, _ => none
end
mutual
theorem R.dp {G : Gx} {H : Hp} : ∀ (d : D) {v : V} {p : PyData}, R G H v d → d.py = some p → Dp G.K H v p
  | .non, _, _, h, e => by
    simp only [D.py, Option.some.injEq] at e; subst e; cases h; exact .non
  | .bl b, _, _, h, e => by
    simp only [D.py, Option.some.injEq] at e; subst e; cases h; exact .bl b
  | .int b, _, _, h, e => by
    simp only [D.py, Option.some.injEq] at e; subst e; cases h; exact .int b
  | .str b, _, _, h, e => by
    simp only [D.py, Option.some.injEq] at e; subst e; cases h; exact .str b
  | .ty _, _, _, _, e => by simp only [D.py, reduceCtorEq] at e
  | .cls _, _, _, _, e => by simp only [D.py, reduceCtorEq] at e
  | .dct _ _, _, _, _, e => by simp only [D.py, reduceCtorEq] at e
  | .sl _, _, _, _, e => by simp only [D.py, reduceCtorEq] at e
  | .obj _ _ _, _, _, _, e => by simp only [D.py, reduceCtorEq] at e
  | .exc _ _ _ _ _, _, _, _, e => by simp only [D.py, reduceCtorEq] at e
  | .tup ds, _, _, h, e => by
    simp only [D.py] at e
    obtain ⟨ps, e2, rfl⟩ := Option.map_eq_some_iff.mp e
    cases h with | tup hs t => exact .tup hs (RAll.dp ds t e2)
  | .lst ds, _, _, h, e => by
    simp only [D.py] at e
    obtain ⟨ps, e2, rfl⟩ := Option.map_eq_some_iff.mp e
    cases h with | lst hs t => exact .lst (SqL.of hs) (RAll.dp ds t e2)
theorem RAll.dp {G : Gx} {H : Hp} : ∀ (ds : List D) {vs : List V} {ps : List PyData}, RAll G H vs ds → D.pys ds = some ps → DpAll G.K H vs ps
  | [], _, _, h, e => by
    simp only [D.pys, Option.some.injEq] at e; subst e; cases h; exact .nil
  | d :: ds, _, ps, h, e => by
    rw [D.pys] at e
    cases e1 : d.py with
    | none => rw [e1] at e; cases e
    | some p =>
      cases e2 : D.pys ds with
      | none => rw [e1, e2] at e; cases e
      | some q =>
        rw [e1, e2] at e
        cases e
        cases h with | cons a t => exact .cons (R.dp d a e1) (RAll.dp ds t e2)
end

/-! ### the slots -/
/-- a slot: nothing known, a value, a container of one's own -/
inductive Cell where
  | un | fz (d : D) | ow (d : D)
abbrev Env := List Cell
/-- what stands at a cell that is owned -/
def Own (G : Gx) (M : List Addr) (H : Hp) (a : Addr) : D → Prop
  | .lst ds => ∃ xs, H a = some (.lst xs) ∧ RAll G (Fz M H) xs ds
  | .dct ks vs => ∃ kvs : List (Key × V), H a = some (.dK kvs) ∧ RAll G (Fz M H) (kvs.map (fun p => kV p.1)) ks ∧ RAll G (Fz M H) (kvs.map (·.2)) vs
  | .obj C ns ds => ∃ dx fs, H a = some (.ins (G.cl C) dx fs) ∧ fs.map (·.1) = ns ∧ RAll G (Fz M H) (fs.map (·.2)) ds
  | _ => False
structure Rep (G : Gx) (M : List Addr) (ρ : Env) (σ : L2.St) (H : Hp) : Prop where
  len : ρ.length = σ.length
  fz : ∀ (i : Nat) (d : D), ρ[i]? = some (.fz d) → ∃ v, σ[i]? = some (some v) ∧ R G (Fz M H) v d
  ow : ∀ (i : Nat) (d : D), ρ[i]? = some (.ow d) → ∃ a, σ[i]? = some (some (.ref a)) ∧ a ∈ M ∧ Own G M H a d
  inj : ∀ (i j : Nat) (a : Addr) (d d' : D), ρ[i]? = some (.ow d) → ρ[j]? = some (.ow d') → σ[i]? = some (some (.ref a)) → σ[j]? = some (some (.ref a)) → i = j
  trk : ∀ a ∈ M, ∃ o, H a = some o ∧ (NoT o ∨ ∃ p ∈ G.tabs, p.1 = a)
  tab : LamX.Tabs G.tabs H
  tm : ∀ p ∈ G.tabs, p.1 ∈ M
/-- the owned cells that are seen -/
def Seen (ρ : Env) (σ : L2.St) (a : Addr) : Prop := ∃ (i : Nat) (d : D), ρ[i]? = some (.ow d) ∧ σ[i]? = some (some (.ref a))
/-- all but these stays -/
def Keep (S : Addr → Prop) (H H' : Hp) : Prop := ∀ b o, H b = some o → ¬ S b → NoT o → H' b = some o
theorem Keep.of_ex {S : Addr → Prop} {H H' : Hp} (e : Ex H H') : Keep S H H' := fun b o h _ _ => e b o h
theorem Keep.trans {S : Addr → Prop} {H H1 H2 : Hp} (a : Keep S H H1) (b : Keep S H1 H2) : Keep S H H2 := fun c o h n t => b c o (a c o h n t) n t
/-- the owned cells alone may have turned -/
def Kin (ρ ρ' : Env) : Prop := ∀ i : Nat, ρ'[i]? = ρ[i]? ∨ ∃ d d', ρ[i]? = some (.ow d) ∧ ρ'[i]? = some (.ow d')
theorem Kin.refl (ρ : Env) : Kin ρ ρ := fun _ => .inl rfl
theorem Kin.trans {ρ ρ1 ρ2 : Env} (a : Kin ρ ρ1) (b : Kin ρ1 ρ2) : Kin ρ ρ2 := fun i => by
  rcases a i with h | ⟨d, d', h1, h2⟩
  · rcases b i with k | ⟨e, e', k1, k2⟩
    · exact .inl (k.trans h)
    · exact .inr ⟨e, e', by rw [← h]; exact k1, k2⟩
  · rcases b i with k | ⟨e, e', k1, k2⟩
    · exact .inr ⟨d, d', h1, k.trans h2⟩
    · exact .inr ⟨d, e', h1, k2⟩
theorem Kin.seen {ρ ρ' : Env} {σ : L2.St} {a : Addr} (k : Kin ρ ρ') : Seen ρ' σ a ↔ Seen ρ σ a := by
  constructor
  · rintro ⟨i, d, h1, h2⟩
    rcases k i with h | ⟨e, e', k1, k2⟩
    · exact ⟨i, d, by rw [← h]; exact h1, h2⟩
    · exact ⟨i, e, k1, h2⟩
  · rintro ⟨i, d, h1, h2⟩
    rcases k i with h | ⟨e, e', k1, k2⟩
    · exact ⟨i, d, by rw [h]; exact h1, h2⟩
    · exact ⟨i, e', k2, h2⟩
theorem Kin.ow {ρ ρ' : Env} (k : Kin ρ ρ') (i : Nat) : (∃ d, ρ'[i]? = some (.ow d)) ↔ ∃ d, ρ[i]? = some (.ow d) := by
  rcases k i with h | ⟨e, e', k1, k2⟩
  · rw [h]
  · exact ⟨fun _ => ⟨e, k1⟩, fun _ => ⟨e', k2⟩⟩
structure Go (G : Gx) (M : List Addr) (σ : L2.St) (ρ : Env) (H : Hp) (ρ' : Env) (H' : Hp) : Prop where
  rep : Rep G M ρ' σ H'
  kin : Kin ρ ρ'
  kp : Keep (Seen ρ σ) H H'
section
variable {G : Gx} {M : List Addr} {σ : L2.St} {ρ ρ1 ρ2 : Env} {H H1 H2 : Hp}
theorem Rep.seenM (r : Rep G M ρ σ H) {a : Addr} (h : Seen ρ σ a) : a ∈ M := by
  obtain ⟨i, d, h1, h2⟩ := h
  obtain ⟨b, e, m, _⟩ := r.ow i d h1
  rw [h2] at e
  cases e
  exact m
theorem Go.refl (r : Rep G M ρ σ H) : Go G M σ ρ H ρ H := ⟨r, .refl _, fun _ _ h _ _ => h⟩
theorem Go.trans (a : Go G M σ ρ H ρ1 H1) (b : Go G M σ ρ1 H1 ρ2 H2) : Go G M σ ρ H ρ2 H2 :=
  ⟨b.rep, a.kin.trans b.kin, fun c o h n t => b.kp c o (a.kp c o h n t) (fun z => n (a.kin.seen.mp z)) t⟩
theorem Go.fz (r : Rep G M ρ σ H) (a : Go G M σ ρ H ρ1 H1) : Ex (Fz M H) (Fz M H1) := fun b o h => by
  obtain ⟨n, e, t⟩ := fz_of3 h
  exact fz_in n (a.kp b o e (fun z => n (r.seenM z)) t) t
theorem Own.ex {a : Addr} {d : D} (e : Ex H H1) (h : Own G M H a d) : Own G M H1 a d := by
  have e2 : Ex (Fz M H) (Fz M H1) := fun b o h => let ⟨n, k, t⟩ := fz_of3 h; fz_in n (e b o k) t
  cases d <;> first | exact h.elim | skip
  · obtain ⟨xs, h1, h2⟩ := h; exact ⟨xs, e _ _ h1, h2.ex e2⟩
  · obtain ⟨kvs, h1, h2, h3⟩ := h; exact ⟨kvs, e _ _ h1, h2.ex e2, h3.ex e2⟩
  · obtain ⟨dx, fs, h1, h2, h3⟩ := h; exact ⟨dx, fs, e _ _ h1, h2, h3.ex e2⟩
theorem Rep.ex (r : Rep G M ρ σ H) (e : Ex H H1) : Rep G M ρ σ H1 := by
  have e2 : Ex (Fz M H) (Fz M H1) := fun b o h => let ⟨n, k, t⟩ := fz_of3 h; fz_in n (e b o k) t
  refine ⟨r.len, fun i d h => ?_, fun i d h => ?_, r.inj, fun a h => ?_, r.tab.ext e, r.tm⟩
  · obtain ⟨v, h1, h2⟩ := r.fz i d h; exact ⟨v, h1, h2.ex e2⟩
  · obtain ⟨a, h1, h2, h3⟩ := r.ow i d h; exact ⟨a, h1, h2, h3.ex e⟩
  · obtain ⟨o, h1, t⟩ := r.trk a h; exact ⟨o, e _ _ h1, t⟩
theorem Go.ex (r : Rep G M ρ σ H) (e : Ex H H1) : Go G M σ ρ H ρ H1 := ⟨r.ex e, .refl _, .of_ex e⟩
theorem Go.then_ex (a : Go G M σ ρ H ρ1 H1) (e : Ex H1 H2) : Go G M σ ρ H ρ1 H2 := a.trans (.ex a.rep e)
theorem fz_step (e : Ex H H1) : Ex (Fz M H) (Fz M H1) := fun b o h => let ⟨n, k, t⟩ := fz_of3 h; fz_in n (e b o k) t
theorem Rep.tr (r : Rep G M ρ σ H) : ∀ a ∈ M, ∃ o, H a = some o := fun a h => let ⟨o, e, _⟩ := r.trk a h; ⟨o, e⟩
/-- nothing but a table stood there -/
def New (H : Hp) (a : Addr) : Prop := ∀ o, H a = some o → ¬ NoT o
theorem New.of {H : Hp} {a : Addr} (h : H a = none) : New H a := fun o e => by rw [h] at e; cases e
theorem Own.pl {a : Addr} {d : D} (h : Own G M H a d) : ∃ o, H a = some o ∧ NoT o ∧ ∀ f, o ≠ .ext f := by
  cases d <;> first | exact h.elim | skip
  · obtain ⟨xs, h1, h2⟩ := h; exact ⟨_, h1, fun _ z => (nomatch z), fun _ z => nomatch z⟩
  · obtain ⟨kvs, h1, h2, h3⟩ := h; exact ⟨_, h1, fun _ z => (nomatch z), fun _ z => nomatch z⟩
  · obtain ⟨dx, fs, h1, h2, h3⟩ := h; exact ⟨_, h1, fun _ z => (nomatch z), fun _ z => nomatch z⟩
theorem Own.noTab {a : Addr} {d : D} (h : Own G M H a d) (t : LamX.Tabs G.tabs H) : ¬ ∃ p ∈ G.tabs, p.1 = a := by
  rintro ⟨p, hp, rfl⟩
  obtain ⟨ps, e, _⟩ := t p hp
  obtain ⟨o, e1, n, _⟩ := h.pl
  rw [e] at e1
  exact n ps (Option.some.inj e1).symm
/-- the tables stay while what is no table and no code object turns -/
theorem tabs_upd {T : List (Addr × Str)} {l : Addr} {o o0 : HO} (t : LamX.Tabs T H) (h0 : H l = some o0) (n1 : NoT o0) (n2 : ∀ f, o0 ≠ .ext f) : LamX.Tabs T (upd H l o) := fun p hp => by
  obtain ⟨ps, e1, e2, e3⟩ := t p hp
  refine ⟨ps, by rw [upd_ne (fun z => by rw [z, h0] at e1; exact n1 ps (Option.some.inj e1))]; exact e1, e2, fun pos cv hc => ?_⟩
  obtain ⟨c, q1, q2⟩ := e3 pos cv hc
  exact ⟨c, q1, by rw [upd_ne (fun z => by rw [z, h0] at q2; unfold LamX.CodeO at q2; exact n2 _ (Option.some.inj q2))]; exact q2⟩
theorem Rep.new (r : Rep G M ρ σ H) {p : Addr} (h : H p = none) : p ∉ M := fun z => by
  obtain ⟨o, e, _⟩ := r.trk p z
  rw [h] at e; cases e
end

/-! ### what an expression gives -/
/-- a value; a container of one's own that stands in a slot -/
inductive Src where
  | val (d : D) | slot (i : Nat)
def Src.gets (s : Src) (ρ : Env) (k : D → Prop) : Prop := match s with
  | .val d => k d
  | .slot i => match ρ[i]? with
    | some (.ow d) => k d
    | _ => False
def RS (G : Gx) (M : List Addr) (ρ : Env) (σ : L2.St) (H : Hp) (v : V) : Src → Prop
  | .val d => R G (Fz M H) v d
  | .slot i => σ[i]? = some (some v) ∧ ∃ d, ρ[i]? = some (.ow d)
/-- v is d: a value, or a container that is owned -/
inductive Arg (G : Gx) (M : List Addr) (H : Hp) (v : V) (d : D) : Prop
  | fz (h : R G (Fz M H) v d)
  | ow (a : Addr) (e : v = .ref a) (m : a ∈ M) (h : Own G M H a d)
section
variable {G : Gx} {M : List Addr} {σ : L2.St} {ρ ρ1 : Env} {H H1 : Hp} {v : V} {d : D} {s : Src}
theorem RS.go (r : Rep G M ρ σ H) (g : Go G M σ ρ H ρ1 H1) (h : RS G M ρ σ H v s) : RS G M ρ1 σ H1 v s := by
  cases s with
  | val d => exact R.ex (g.fz r) h
  | slot i => exact ⟨h.1, (g.kin.ow i).mpr h.2⟩
theorem RS.arg {k : D → Prop} (r : Rep G M ρ σ H) (h : RS G M ρ σ H v s) (e : s.gets ρ k) : ∃ d, Arg G M H v d ∧ k d := by
  cases s with
  | val d => exact ⟨d, .fz h, e⟩
  | slot i =>
    obtain ⟨h1, d, h2⟩ := h
    unfold Src.gets at e
    simp only [h2] at e
    obtain ⟨a, e1, m, o⟩ := r.ow i d h2
    rw [h1] at e1
    cases e1
    exact ⟨d, .ow a rfl m o, e⟩
theorem Arg.full (h : Arg G M H v d) : R G H v d := by
  cases h with
  | fz h => exact h.ex (fz_ex _ _)
  | ow a e m h =>
    subst e
    cases d <;> first | exact h.elim | skip
    · obtain ⟨xs, h1, h2⟩ := h; exact .lst h1 (h2.ex (fz_ex _ _))
    · obtain ⟨kvs, h1, h2, h3⟩ := h; exact .dct ⟨kvs, .inl h1, rfl, rfl⟩ (h2.ex (fz_ex _ _)) (h3.ex (fz_ex _ _))
    · obtain ⟨dx, fs, h1, h2, h3⟩ := h; exact .obj h1 h2 (h3.ex (fz_ex _ _))
theorem Arg.flat (h : Arg G M H v d) (f : d.flat = true) : R G (Fz M H) v d := h.full.flat f
theorem Arg.lst {ds : List D} (h : Arg G M H v (.lst ds)) : ∃ a xs, v = .ref a ∧ H a = some (.lst xs) ∧ RAll G (Fz M H) xs ds := by
  cases h with
  | fz h => obtain ⟨a, xs, e, h1, h2⟩ := h.lst_inv; exact ⟨a, xs, e, fz_ex _ _ _ _ h1, h2⟩
  | ow a e m h => obtain ⟨xs, h1, h2⟩ := h; exact ⟨a, xs, e, h1, h2⟩
theorem Arg.sl {ds : List D} (h : Arg G M H v (.sl ds)) : ∃ a xs, v = .ref a ∧ SqL G.K H a xs ∧ RAll G (Fz M H) xs ds := by
  cases h with
  | fz h => obtain ⟨a, xs, e, h1, h2⟩ := h.sl_inv; exact ⟨a, xs, e, sqL_ex (fz_ex _ _) h1, h2⟩
  | ow a e m h => exact h.elim
theorem Arg.tup {ds : List D} (h : Arg G M H v (.tup ds)) : ∃ a xs, v = .ref a ∧ SqT G.K H a xs ∧ RAll G (Fz M H) xs ds ∧ R G (Fz M H) v (.tup ds) := by
  cases h with
  | fz h => obtain ⟨a, xs, e, h1, h2⟩ := h.tup_inv; exact ⟨a, xs, e, sqT_ex (fz_ex _ _) h1, h2, h⟩
  | ow a e m h => exact h.elim
theorem Arg.ex (h : Arg G M H v d) (e : Ex H H1) : Arg G M H1 v d := by
  cases h with
  | fz h => exact .fz (h.ex (fz_step e))
  | ow a e' m h => exact .ow a e' m (h.ex e)
theorem Arg.str {x : Str} (h : Arg G M H v (.str x)) : v = .str x := h.full.str_inv
theorem Arg.int {i : Int} (h : Arg G M H v (.int i)) : v = .int i := h.full.int_inv
theorem Arg.bl {b : Bool} (h : Arg G M H v (.bl b)) : v = .bl b := h.full.bl_inv
theorem Arg.non (h : Arg G M H v .non) : v = .non := h.full.non_inv
end
end Pu
/-! ### the pure layer: expressions -/
namespace Pu
open PySem PySem.Spec PyProof.Rows L2 Lk Evl
abbrev EQ := Str → List Str → List D → Env → Prop
abbrev WE := Env → (Src → Env → Prop) → EQ → Prop
abbrev WT := Env → (Bool → Env → Prop) → EQ → Prop
abbrev WA := Env → (List Src → Env → Prop) → EQ → Prop
/-- what an exception carries -/
def XdAt (G : Gx) (M : List Addr) (H : Hp) : Option Addr → List Str → List D → Prop
  | none, ns, vs => ns = [] ∧ vs = []
  | some a, ns, vs => ∃ fs : List (Str × V), Fz M H a = some (.xd fs) ∧ fs.map (·.1) = ns ∧ RAll G (Fz M H) (fs.map (·.2)) vs
/-- what is raised is wished for -/
def Thr (G : Gx) (M : List Addr) (W : WX) (σ : L2.St) (ρ : Env) (H : Hp) (eq : EQ) : Prop :=
  ∀ C ns vs ρ' dx H', Go G M σ ρ H ρ' H' → XdAt G M H' dx ns vs → eq C ns vs ρ' → W (.ref (G.cl C)) dx σ H'
theorem Thr.go {G : Gx} {M : List Addr} {W : WX} {σ : L2.St} {ρ ρ1 : Env} {H H1 : Hp} {eq : EQ} (h : Thr G M W σ ρ H eq) (g : Go G M σ ρ H ρ1 H1) : Thr G M W σ ρ1 H1 eq :=
  fun C ns vs ρ' dx H' g2 => h C ns vs ρ' dx H' (g.trans g2)
abbrev RSs (G : Gx) (M : List Addr) (ρ : Env) (σ : L2.St) (H : Hp) : List V → List Src → Prop := Paired (RS G M ρ σ H)
abbrev Args (G : Gx) (M : List Addr) (H : Hp) : List V → List D → Prop := Paired (Arg G M H)
def SE (G : Gx) (W : WX) (t : TE) (w : WE) : Prop := ∀ M ρ σ H q eq Q, Rep G M ρ σ H → w ρ q eq → (∀ s ρ' v H', Go G M σ ρ H ρ' H' → RS G M ρ' σ H' v s → q s ρ' → Q v H') → Thr G M W σ ρ H eq → t σ H Q
def STt (G : Gx) (W : WX) (t : TT) (w : WT) : Prop := ∀ M ρ σ H q eq Q, Rep G M ρ σ H → w ρ q eq → (∀ b ρ' H', Go G M σ ρ H ρ' H' → q b ρ' → Q b H') → Thr G M W σ ρ H eq → t σ H Q
def SA (G : Gx) (W : WX) (t : TA) (w : WA) : Prop := ∀ M ρ σ H q eq Q, Rep G M ρ σ H → w ρ q eq → (∀ ss ρ' vs H', Go G M σ ρ H ρ' H' → RSs G M ρ' σ H' vs ss → q ss ρ' → Q vs H') → Thr G M W σ ρ H eq → t σ H Q
structure PX (G : Gx) (X : Cx) (W : WX) (e : Expr) (w : WE) : Prop where
  ex : ∃ t, PE X e t ∧ SE G W t w
structure PXT (G : Gx) (X : Cx) (W : WX) (e : Expr) (w : WT) : Prop where
  ex : ∃ t, PT X e t ∧ STt G W t w
structure PXW (G : Gx) (X : Cx) (W : WX) (e : Expr) (w : WT) : Prop where
  ex : ∃ t, PW X e t ∧ STt G W t w
structure PXA (G : Gx) (X : Cx) (W : WX) (es : List Expr) (w : WA) : Prop where
  ex : ∃ t, PA X es t ∧ SA G W t w
abbrev Op2 := D → D → (D → Prop) → Prop
abbrev Op1 := D → (D → Prop) → Prop
abbrev OpN := List D → (D → Prop) → Prop
def Trk (M : List Addr) (H : Hp) : Prop := ∀ a ∈ M, ∃ o, H a = some o
theorem Trk.new {M : List Addr} {H : Hp} (r : Trk M H) {p : Addr} (h : H p = none) : p ∉ M := fun z => by
  obtain ⟨o, e⟩ := r p z
  rw [h] at e; cases e
/-- what an operator's rule asks is told by the pure one -/
def OpS (G : Gx) (op : Op2) (r : R2) : Prop := ∀ M H x y d1 d2 k, Trk M H → Arg G M H x d1 → Arg G M H y d2 → op d1 d2 k → ∀ Q : VK, (∀ d v H', Ex H H' → R G (Fz M H') v d → k d → Q v H') → r x y H Q
def UnS (G : Gx) (op : Op1) (r : V → Hp → VK → Prop) : Prop := ∀ M H x d1 k, Trk M H → Arg G M H x d1 → op d1 k → ∀ Q : VK, (∀ d v H', Ex H H' → R G (Fz M H') v d → k d → Q v H') → r x H Q
def CallS (G : Gx) (op : OpN) (r : List V → Hp → VK → Prop) : Prop := ∀ M H xs ds k, Trk M H → Args G M H xs ds → op ds k → ∀ Q : VK, (∀ d v H', Ex H H' → R G (Fz M H') v d → k d → Q v H') → r xs H Q
def MethS (G : Gx) (T : String) (op : D → OpN) (r : V → List V → Hp → VK → Prop) : Prop := ∀ M H x d xs ds k, Trk M H → Arg G M H x d → Args G M H xs ds → op d ds k → ∀ Q : VK, (∀ d v H', Ex H H' → R G (Fz M H') v d → k d → Q v H') → r x xs H Q
def gets2 (ρ : Env) : List Src → (List D → Prop) → Prop
  | [], k => k []
  | s :: ss, k => s.gets ρ fun d => gets2 ρ ss fun ds => k (d :: ds)
section
variable {G : Gx} {M : List Addr} {σ : L2.St} {ρ ρ1 : Env} {H H1 : Hp}
theorem RSs.go (r : Rep G M ρ σ H) (g : Go G M σ ρ H ρ1 H1) : ∀ {vs : List V} {ss : List Src}, RSs G M ρ σ H vs ss → RSs G M ρ1 σ H1 vs ss
  | _, _, .nil => .nil
  | _, _, .cons h t => .cons (h.go r g) (RSs.go r g t)
theorem RSs.args (r : Rep G M ρ σ H) : ∀ {vs : List V} {ss : List Src} {k : List D → Prop}, RSs G M ρ σ H vs ss → gets2 ρ ss k → ∃ ds, Args G M H vs ds ∧ k ds
  | _, _, _, .nil, h => ⟨[], .nil, h⟩
  | _, _, _, .cons a t, h => by
    obtain ⟨d, h1, h2⟩ := a.arg r h
    obtain ⟨ds, h3, h4⟩ := RSs.args r t h2
    exact ⟨d :: ds, .cons h1 h3, h4⟩
theorem Args.one {xs : List V} {d : D} (h : Args G M H xs [d]) : ∃ v, xs = [v] ∧ Arg G M H v d := by
  cases h with | cons a t => cases t; exact ⟨_, rfl, a⟩
theorem Args.two {xs : List V} {d e : D} (h : Args G M H xs [d, e]) : ∃ v u, xs = [v, u] ∧ Arg G M H v d ∧ Arg G M H u e := by
  cases h with | cons a t => cases t with | cons b t => cases t; exact ⟨_, _, rfl, a, b⟩
theorem Args.three {xs : List V} {d e f : D} (h : Args G M H xs [d, e, f]) : ∃ v u w, xs = [v, u, w] ∧ Arg G M H v d ∧ Arg G M H u e ∧ Arg G M H w f := by
  cases h with | cons a t => cases t with | cons b t => cases t with | cons c t => cases t; exact ⟨_, _, _, rfl, a, b, c⟩
end

/-! ### names, constants -/
def wC (d : D) : WE := fun ρ q _ => q (.val d) ρ
def wName (i : Nat) : WE := fun ρ q _ => match ρ[i]? with
  | some (.fz d) => q (.val d) ρ
  | some (.ow _) => q (.slot i) ρ
  | _ => False
section
variable {G : Gx} {X : Cx} {W : WX} {e a b c : Expr} {es rest : List Expr} {pos p p2 : Pos}
theorem px_c {v : V} {d : D} (h : PE X e (tC v)) (r : ∀ H, R G H v d) : PX G X W e (wC d) :=
  ⟨_, h, fun M ρ σ H q eq Q rp w k _ => k (.val d) ρ v H (.refl rp) (r _) w⟩
theorem px_int {i j} : PX G X W (.Constant (.int i) j pos) (wC (.int i)) := px_c pe_int fun _ => .int i
theorem px_bl {b j} : PX G X W (.Constant (.bool b) j pos) (wC (.bl b)) := px_c pe_bl fun _ => .bl b
theorem px_non {j} : PX G X W (.Constant .none j pos) (wC .non) := px_c pe_non fun _ => .non
theorem px_str {x j} : PX G X W (.Constant (.str x) j pos) (wC (.str x)) := px_c pe_str fun _ => .str x
theorem px_name (i : Nat) {x : Str} (hN : X.N[i]? = some x := by rfl) (hv : Vis X.env.scope x := by first | exact Or.inl rfl | exact Or.inr (Or.inl rfl) | exact Or.inr (Or.inr rfl)) (hd : (x == ("__debug__" : Str)) = false := by decide)
    (hcd : (x == ("__classdict__" : Str)) = false := by decide) : PX G X W (.Name x pos) (wName i) := by
  refine ⟨_, pv i hN hv hd hcd, fun M ρ σ H q eq Q rp w k _ => ?_⟩
  unfold wName at w
  split at w
  · rename_i d e
    obtain ⟨v, h1, h2⟩ := rp.fz i d e
    exact ⟨v, h1, k (.val d) ρ v H (.refl rp) h2 w⟩
  · rename_i d e
    obtain ⟨a, h1, h2, h3⟩ := rp.ow i d e
    exact ⟨_, h1, k (.slot i) ρ _ H (.refl rp) ⟨h1, d, e⟩ w⟩
  · exact w.elim
/-- a constant of the module -/
theorem px_glob {x : Str} {v : V} {u : Value} {d : D} (hg : Gl X x) (hm : X.mg x = some u) (r : RelV v u) (rd : ∀ H, R G H v d) (hd : (x == ("__debug__" : Str)) = false := by decide) : PX G X W (.Name x pos) (wC d) := px_c (pe_glob hg hm r hd) rd
theorem px_gstr {x z : Str} {t : Tok} (hg : Gl X x) (hm : X.mg x = some (.str z t)) (hd : (x == ("__debug__" : Str)) = false := by decide) : PX G X W (.Name x pos) (wC (.str z)) := px_glob (v := .str z) hg hm ⟨_, rfl⟩ (fun _ => .str z) hd
theorem px_gint {x : Str} {i : Int} {t : Tok} (hg : Gl X x) (hm : X.mg x = some (.int i t)) (hd : (x == ("__debug__" : Str)) = false := by decide) : PX G X W (.Name x pos) (wC (.int i)) := px_glob (v := .int i) hg hm ⟨_, rfl⟩ (fun _ => .int i) hd
theorem px_gcls {x C : Str} (hg : Gl X x) (hm : X.mg x = some (.ref (G.cl C))) (hd : (x == ("__debug__" : Str)) = false := by decide) : PX G X W (.Name x pos) (wC (.cls C)) := px_glob (v := .ref (G.cl C)) hg hm rfl (fun _ => .cls C) hd
theorem px_ty {x : Str} {n : String} (hg : Gl X x) (hm : X.mg x = none) (hv : bootBuiltins x = some (.type n)) (hn : x ≠ "__name__" := by decide) (hd : (x == ("__debug__" : Str)) = false := by decide) : PX G X W (.Name x pos) (wC (.ty n)) :=
  px_c (pe_bltn (v := .ty n) hg hm hv rfl hn hd) fun _ => .ty n

/-! ### operators -/
def wOp (op : Op2) (wa wb : WE) : WE := fun ρ q e => wa ρ (fun s1 ρ1 => wb ρ1 (fun s2 ρ2 => s1.gets ρ2 fun d1 => s2.gets ρ2 fun d2 => op d1 d2 fun d => q (.val d) ρ2) e) e
def wUn (op : Op1) (wa : WE) : WE := fun ρ q e => wa ρ (fun s1 ρ1 => s1.gets ρ1 fun d1 => op d1 fun d => q (.val d) ρ1) e
theorem se_op {ta tb : TE} {wa wb : WE} {r : R2} {op : Op2} (ha : SE G W ta wa) (hb : SE G W tb wb) (ho : OpS G op r) : SE G W (tOp r ta tb) (wOp op wa wb) := by
  intro M ρ σ H q eq Q rp w k th
  refine ha M ρ σ H _ eq _ rp w (fun s1 ρ1 x H1 g1 r1 w1 => ?_) th
  refine hb M ρ1 σ H1 _ eq _ g1.rep w1 (fun s2 ρ2 y H2 g2 r2 w2 => ?_) (th.go g1)
  obtain ⟨d1, a1, w3⟩ := (r1.go g1.rep g2).arg g2.rep w2
  obtain ⟨d2, a2, w4⟩ := r2.arg g2.rep w3
  exact ho M H2 x y d1 d2 _ g2.rep.tr a1 a2 w4 Q fun d v H' e rd kd => k (.val d) ρ2 v H' ((g1.trans g2).then_ex e) rd kd
theorem se_un {ta : TE} {wa : WE} {r : V → Hp → VK → Prop} {op : Op1} (ha : SE G W ta wa) (ho : UnS G op r) : SE G W (tUn r ta) (wUn op wa) := by
  intro M ρ σ H q eq Q rp w k th
  refine ha M ρ σ H _ eq _ rp w (fun s1 ρ1 x H1 g1 r1 w1 => ?_) th
  obtain ⟨d1, a1, w3⟩ := r1.arg g1.rep w1
  exact ho M H1 x d1 _ g1.rep.tr a1 w3 Q fun d v H' e rd kd => k (.val d) ρ1 v H' (g1.then_ex e) rd kd
theorem px_op {wa wb : WE} {f : Operator} {r : R2} {op : Op2} (hr : OpR X (binaryOp f) r) (ho : OpS G op r) (ha : PX G X W a wa) (hb : PX G X W b wb) : PX G X W (.BinOp a f b pos) (wOp op wa wb) := by
  obtain ⟨ta, pa, sa⟩ := ha
  obtain ⟨tb, pb, sb⟩ := hb
  exact ⟨_, pe_op hr pa pb, se_op sa sb ho⟩
theorem px_un {wa : WE} {f : UnaryOp} {r : V → Hp → VK → Prop} {op : Op1} (hr : UnR X (unaryOp f) r) (ho : UnS G op r) (ha : PX G X W a wa) : PX G X W (.UnaryOp f a pos) (wUn op wa) := by
  obtain ⟨ta, pa, sa⟩ := ha
  exact ⟨_, pe_un hr pa, se_un sa ho⟩
theorem px_cmp {wa wb : WE} {f : CmpOp} {r : R2} {op : Op2} (hr : OpR X (compareOp f) r) (ho : OpS G op r) (ha : PX G X W a wa) (hb : PX G X W b wb) (hm : behindInMarks f b = false) : PX G X W (.Compare a [f] [b] pos) (wOp op wa wb) := by
  obtain ⟨ta, pa, sa⟩ := ha
  obtain ⟨tb, pb, sb⟩ := hb
  exact ⟨_, pe_cmpR hr pa pb hm, se_op sa sb ho⟩
/-! ### tests -/
def dB (d : D) (k : Bool → Prop) : Prop := match d with
  | .bl b => k b
  | _ => False
/-- an expression of truth -/
def wB (wa : WE) : WT := fun ρ q e => wa ρ (fun s ρ1 => s.gets ρ1 fun d => dB d fun b => q b ρ1) e
theorem st_b {ta : TE} {wa : WE} (ha : SE G W ta wa) : STt G W (tTest ta) (wB wa) := by
  intro M ρ σ H q eq Q rp w k th
  refine ha M ρ σ H _ eq _ rp w (fun s1 ρ1 x H1 g1 r1 w1 => ?_) th
  obtain ⟨d1, a1, w3⟩ := r1.arg g1.rep w1
  unfold dB at w3
  split at w3
  · exact ⟨_, a1.bl, k _ ρ1 H1 g1 w3⟩
  · exact w3.elim
theorem pxt_cmp {wa wb : WE} {f : CmpOp} {r : R2} {op : Op2} (hr : OpR X (compareOp f) r) (ho : OpS G op r) (ha : PX G X W a wa) (hb : PX G X W b wb) (hm : behindInMarks f b = false) : PXT G X W (.Compare a [f] [b] pos) (wB (wOp op wa wb)) := by
  obtain ⟨ta, pa, sa⟩ := ha
  obtain ⟨tb, pb, sb⟩ := hb
  exact ⟨_, pt_cmpR hr pa pb hm, st_b (se_op sa sb ho)⟩
/-- truth of a value -/
def dTru (d : D) (k : Bool → Prop) : Prop := match d with
  | .non => k false
  | .bl b => k b
  | .int i => k (i != 0)
  | .str x => x.length ≤ sizeLine ∧ k (x.length != 0)
  | .lst ds => k (!ds.isEmpty)
  | .tup ds => k (!ds.isEmpty)
  | _ => False
def wTru (wa : WE) : WT := fun ρ q e => wa ρ (fun s ρ1 => s.gets ρ1 fun d => dTru d fun b => q b ρ1) e
theorem empty_len {G : Gx} {H : Hp} {xs : List V} {ds : List D} (t : RAll G H xs ds) : xs.isEmpty = ds.isEmpty := by cases t <;> rfl
theorem dTru_of {M : List Addr} {H : Hp} {x : V} {d : D} {k : Bool → Prop} {K : PySem.W.Frag} (hK : K = G.K) (a : Arg G M H x d) (h : dTru d k) : ∃ b, TruV K x H b ∧ k b := by
  subst hK
  unfold dTru at h
  split at h
  · exact ⟨_, by rw [a.non]; rfl, h⟩
  · exact ⟨_, by rw [a.bl]; rfl, h⟩
  · exact ⟨_, by rw [a.int]; rfl, h⟩
  · rename_i z
    refine ⟨_, ?_, h.2⟩
    rw [a.str]
    refine ⟨h.1, ?_⟩
    cases z.length <;> rfl
  · obtain ⟨p, xs, rfl, h1, h2⟩ := a.lst
    exact ⟨_, .inl ⟨xs, SqL.of h1, by rw [empty_len h2]⟩, h⟩
  · obtain ⟨p, xs, rfl, h1, h2, _⟩ := a.tup
    exact ⟨_, .inr (.inl ⟨xs, h1, by rw [empty_len h2]⟩), h⟩
  · exact h.elim
theorem pxt_val {wa : WE} (ha : PX G X W a wa) (he : ∀ whole, isTrue a X.env whole = (do let v ← whole; standAt a.pos; holding [v] (truthy v)) := by intro _; rfl) (hK : X.K = G.K := by rfl) : PXT G X W a (wTru wa) := by
  obtain ⟨ta, pa, sa⟩ := ha
  refine ⟨_, pt_truth pa he, ?_⟩
  intro M ρ σ H q eq Q rp w k th
  refine sa M ρ σ H _ eq _ rp w (fun s1 ρ1 x H1 g1 r1 w1 => ?_) th
  obtain ⟨d1, a1, w3⟩ := r1.arg g1.rep w1
  obtain ⟨b, h1, h2⟩ := dTru_of hK a1 w3
  exact ⟨b, h1, k _ ρ1 H1 g1 h2⟩
def wNotT (wa : WT) : WT := fun ρ q e => wa ρ (fun b ρ1 => q (!b) ρ1) e
def wAndT (wa wb : WT) : WT := fun ρ q e => wa ρ (fun b ρ1 => if b = true then wb ρ1 q e else q false ρ1) e
def wOrT (wa wb : WT) : WT := fun ρ q e => wa ρ (fun b ρ1 => if b = true then q true ρ1 else wb ρ1 q e) e
theorem pxt_not {wa : WT} (ha : PXT G X W a wa) : PXT G X W (.UnaryOp .Not a pos) (wNotT wa) := by
  obtain ⟨ta, pa, sa⟩ := ha
  exact ⟨_, pt_not pa, fun M ρ σ H q eq Q rp w k th => sa M ρ σ H _ eq _ rp w (fun b ρ' H' g qq => k _ ρ' H' g qq) th⟩
theorem pxw {wa : WT} (ha : PXW G X W a wa) : PXT G X W a wa := by
  obtain ⟨ta, pa, sa⟩ := ha
  exact ⟨_, pa.pt, sa⟩
theorem pxw_and1 {wa : WT} (ha : PXT G X W a wa) : PXW G X W (.BoolOp .And [a] pos) wa := by
  obtain ⟨ta, pa, sa⟩ := ha
  exact ⟨_, pw_and1 pa, sa⟩
theorem pxw_or1 {wa : WT} (ha : PXT G X W a wa) : PXW G X W (.BoolOp .Or [a] pos) wa := by
  obtain ⟨ta, pa, sa⟩ := ha
  exact ⟨_, pw_or1 pa, sa⟩
theorem pxw_and {wa wb : WT} (ha : PXT G X W a wa) (hb : PXW G X W (.BoolOp .And (b :: rest) pos) wb) : PXW G X W (.BoolOp .And (a :: b :: rest) pos) (wAndT wa wb) := by
  obtain ⟨ta, pa, sa⟩ := ha
  obtain ⟨tb, pb, sb⟩ := hb
  refine ⟨_, pw_and pa pb, fun M ρ σ H q eq Q rp w k th => sa M ρ σ H _ eq _ rp w (fun b ρ' H' g qq => ?_) th⟩
  cases b with
  | true => rw [if_pos rfl] at qq ⊢; exact sb M ρ' σ H' q eq Q g.rep qq (fun b ρ2 H2 g2 => k b ρ2 H2 (g.trans g2)) (th.go g)
  | false => rw [if_neg Bool.false_ne_true] at qq ⊢; exact k _ ρ' H' g qq
theorem pxw_or {wa wb : WT} (ha : PXT G X W a wa) (hb : PXW G X W (.BoolOp .Or (b :: rest) pos) wb) : PXW G X W (.BoolOp .Or (a :: b :: rest) pos) (wOrT wa wb) := by
  obtain ⟨ta, pa, sa⟩ := ha
  obtain ⟨tb, pb, sb⟩ := hb
  refine ⟨_, pw_or pa pb, fun M ρ σ H q eq Q rp w k th => sa M ρ σ H _ eq _ rp w (fun b ρ' H' g qq => ?_) th⟩
  cases b with
  | false => rw [if_neg Bool.false_ne_true] at qq ⊢; exact sb M ρ' σ H' q eq Q g.rep qq (fun b ρ2 H2 g2 => k b ρ2 H2 (g.trans g2)) (th.go g)
  | true => rw [if_pos rfl] at qq ⊢; exact k _ ρ' H' g qq
/-! ### and, or, not as values (of truths); a if t else b -/
def wAndV (wa wb : WE) : WE := fun ρ q e => wa ρ (fun s ρ1 => s.gets ρ1 fun d => dB d fun b => if b = true then wb ρ1 q e else q (.val (.bl false)) ρ1) e
def wOrV (wa wb : WE) : WE := fun ρ q e => wa ρ (fun s ρ1 => s.gets ρ1 fun d => dB d fun b => if b = true then q (.val (.bl true)) ρ1 else wb ρ1 q e) e
def wNotV (wa : WE) : WE := fun ρ q e => wa ρ (fun s ρ1 => s.gets ρ1 fun d => dTru d fun b => q (.val (.bl (!b))) ρ1) e
def wIf (wt : WT) (wa wb : WE) : WE := fun ρ q e => wt ρ (fun b ρ1 => if b = true then wa ρ1 q e else wb ρ1 q e) e
theorem px_one {op} {wa : WE} (ha : PX G X W a wa) : PX G X W (.BoolOp op [a] pos) wa := by
  obtain ⟨ta, pa, sa⟩ := ha
  exact ⟨_, pe_one pa, sa⟩
theorem px_and {wa wb : WE} (ha : PX G X W a wa) (hb : PX G X W (.BoolOp .And (b :: rest) pos) wb) : PX G X W (.BoolOp .And (a :: b :: rest) pos) (wAndV wa wb) := by
  obtain ⟨ta, pa, sa⟩ := ha
  obtain ⟨tb, pb, sb⟩ := hb
  refine ⟨_, pe_and pa pb, fun M ρ σ H q eq Q rp w k th => sa M ρ σ H _ eq _ rp w (fun s ρ' v H' g r1 qq => ?_) th⟩
  obtain ⟨d1, a1, w3⟩ := r1.arg g.rep qq
  unfold dB at w3
  split at w3
  · rename_i b
    refine ⟨b, a1.bl, ?_⟩
    cases b with
    | true => rw [if_pos rfl] at w3 ⊢; exact sb M ρ' σ H' q eq Q g.rep w3 (fun b ρ2 v2 H2 g2 => k b ρ2 v2 H2 (g.trans g2)) (th.go g)
    | false => rw [if_neg Bool.false_ne_true] at w3 ⊢; exact k (.val (.bl false)) ρ' _ H' g (R.bl false) w3
  · exact w3.elim
theorem px_or {wa wb : WE} (ha : PX G X W a wa) (hb : PX G X W (.BoolOp .Or (b :: rest) pos) wb) : PX G X W (.BoolOp .Or (a :: b :: rest) pos) (wOrV wa wb) := by
  obtain ⟨ta, pa, sa⟩ := ha
  obtain ⟨tb, pb, sb⟩ := hb
  refine ⟨_, pe_or pa pb, fun M ρ σ H q eq Q rp w k th => sa M ρ σ H _ eq _ rp w (fun s ρ' v H' g r1 qq => ?_) th⟩
  obtain ⟨d1, a1, w3⟩ := r1.arg g.rep qq
  unfold dB at w3
  split at w3
  · rename_i b
    refine ⟨b, a1.bl, ?_⟩
    cases b with
    | false => rw [if_neg Bool.false_ne_true] at w3 ⊢; exact sb M ρ' σ H' q eq Q g.rep w3 (fun b ρ2 v2 H2 g2 => k b ρ2 v2 H2 (g.trans g2)) (th.go g)
    | true => rw [if_pos rfl] at w3 ⊢; exact k (.val (.bl true)) ρ' _ H' g (R.bl true) w3
  · exact w3.elim
theorem px_not {wa : WE} (ha : PX G X W a wa) (hK : X.K = G.K := by rfl) : PX G X W (.UnaryOp .Not a pos) (wNotV wa) := by
  obtain ⟨ta, pa, sa⟩ := ha
  refine ⟨_, pe_notT pa, fun M ρ σ H q eq Q rp w k th => sa M ρ σ H _ eq _ rp w (fun s ρ' v H' g r1 qq => ?_) th⟩
  obtain ⟨d1, a1, w3⟩ := r1.arg g.rep qq
  obtain ⟨b, h1, h2⟩ := dTru_of hK a1 w3
  exact ⟨b, h1, k (.val (.bl _)) ρ' _ H' g (R.bl _) h2⟩
theorem px_if {wt : WT} {wa wb : WE} (ht : PXT G X W c wt) (ha : PX G X W a wa) (hb : PX G X W b wb) : PX G X W (.IfExp c a b pos) (wIf wt wa wb) := by
  obtain ⟨tt, pt, stt⟩ := ht
  obtain ⟨ta, pa, sa⟩ := ha
  obtain ⟨tb, pb, sb⟩ := hb
  refine ⟨_, pe_ifExp pt pa pb, fun M ρ σ H q eq Q rp w k th => stt M ρ σ H _ eq _ rp w (fun b ρ' H' g qq => ?_) th⟩
  cases b with
  | true => rw [if_pos rfl] at qq ⊢; exact sa M ρ' σ H' q eq Q g.rep qq (fun b ρ2 v2 H2 g2 => k b ρ2 v2 H2 (g.trans g2)) (th.go g)
  | false => rw [if_neg Bool.false_ne_true] at qq ⊢; exact sb M ρ' σ H' q eq Q g.rep qq (fun b ρ2 v2 H2 g2 => k b ρ2 v2 H2 (g.trans g2)) (th.go g)
/-! ### argument lists, displays -/
def wNil : WA := fun ρ q _ => q [] ρ
def wCons (wa : WE) (wr : WA) : WA := fun ρ q e => wa ρ (fun s ρ1 => wr ρ1 (fun ss ρ2 => q (s :: ss) ρ2) e) e
theorem pxa_nil : PXA G X W [] wNil := ⟨_, pa_nil, fun M ρ σ H q eq Q rp w k _ => k [] ρ [] H (.refl rp) .nil w⟩
theorem pxa_cons {wa : WE} {wr : WA} (ha : PX G X W e wa) (hr : PXA G X W es wr) (hs : starEach (e :: es) X.env = (false, eval e X.env) :: starEach es X.env := by rfl) : PXA G X W (e :: es) (wCons wa wr) := by
  obtain ⟨ta, pa, sa⟩ := ha
  obtain ⟨tr, pr, sr⟩ := hr
  refine ⟨_, pa_cons pa pr hs, fun M ρ σ H q eq Q rp w k th => sa M ρ σ H _ eq _ rp w (fun s ρ1 v H1 g1 r1 w1 => ?_) th⟩
  exact sr M ρ1 σ H1 _ eq _ g1.rep w1 (fun ss ρ2 vs H2 g2 r2 w2 => k (s :: ss) ρ2 (v :: vs) H2 (g1.trans g2) (.cons (r1.go g1.rep g2) r2) w2) (th.go g1)
/-- all are values -/
def vals2 : List Src → (List D → Prop) → Prop
  | [], k => k []
  | .val d :: ss, k => vals2 ss fun ds => k (d :: ds)
  | _ :: _, _ => False
structure ValsD (ss : List Src) (k : List D → Prop) : Prop where
  ok : vals2 ss k
theorem RSs.vals' {M : List Addr} {ρ : Env} {σ : L2.St} {H : Hp} : ∀ {vs : List V} {ss : List Src} {k : List D → Prop}, RSs G M ρ σ H vs ss → vals2 ss k → ∃ ds, RAll G (Fz M H) vs ds ∧ k ds
  | _, _, _, .nil, h => ⟨[], .nil, h⟩
  | _, .val d :: _, _, .cons a t, h => by
    obtain ⟨ds, h3, h4⟩ := RSs.vals' t h
    exact ⟨d :: ds, .cons a h3, h4⟩
  | _, .slot _ :: _, _, .cons a t, h => h.elim
theorem RSs.vals {M : List Addr} {ρ : Env} {σ : L2.St} {H : Hp} {vs : List V} {ss : List Src} {k : List D → Prop} (a : RSs G M ρ σ H vs ss) (h : ValsD ss k) : ∃ ds, RAll G (Fz M H) vs ds ∧ k ds := RSs.vals' a h.ok
def wTup (wa : WA) : WE := fun ρ q e => wa ρ (fun ss ρ1 => ValsD ss fun ds => ds.length ≤ sizeLine ∧ q (.val (.tup ds)) ρ1) e
def wLst (wa : WA) : WE := fun ρ q e => wa ρ (fun ss ρ1 => ValsD ss fun ds => ds.length ≤ sizeLine ∧ q (.val (.lst ds)) ρ1) e
theorem px_tup {wa : WA} {x1} (ha : PXA G X W es wa) : PX G X W (.Tuple es x1 pos) (wTup wa) := by
  obtain ⟨ta, pa, sa⟩ := ha
  refine ⟨_, pe_tup pa, fun M ρ σ H q eq Q rp w k th => sa M ρ σ H _ eq _ rp w (fun ss ρ' vs H' g r1 qq => ?_) th⟩
  obtain ⟨ds, h1, h2, h3⟩ := r1.vals qq
  refine ⟨by rw [h1.len]; exact h2, fun p hp => k _ ρ' _ _ (g.then_ex (Ex.new hp)) ?_ h3⟩
  exact .tup (SqT.of (fz_in (g.rep.new hp) upd_same)) (h1.ex (fz_step (Ex.new hp)))
theorem px_lst {wa : WA} (ha : PXA G X W es wa) : PX G X W (.List es pos) (wLst wa) := by
  obtain ⟨ta, pa, sa⟩ := ha
  refine ⟨_, pe_lst pa, fun M ρ σ H q eq Q rp w k th => sa M ρ σ H _ eq _ rp w (fun ss ρ' vs H' g r1 qq => ?_) th⟩
  obtain ⟨ds, h1, h2, h3⟩ := r1.vals qq
  refine ⟨by rw [h1.len]; exact h2, fun p hp => k _ ρ' _ _ (g.then_ex (Ex.new hp)) ?_ h3⟩
  exact .lst (fz_in (g.rep.new hp) upd_same) (h1.ex (fz_step (Ex.new hp)))
/-! ### subscripts, slices -/
theorem px_ix {wa wb : WE} {r : R2} {op : Op2} (hr : IxR X r) (ho : OpS G op r) (ha : PX G X W a wa) (hb : PX G X W b wb) (hs : PlainIx b := by intro _ _; rfl) : PX G X W (.Subscript a b pos) (wOp op wa wb) := by
  obtain ⟨ta, pa, sa⟩ := ha
  obtain ⟨tb, pb, sb⟩ := hb
  exact ⟨_, pe_ix hr pa pb hs, se_op sa sb ho⟩
abbrev WO := Env → (Option Int → Env → Prop) → EQ → Prop
structure PXO (G : Gx) (X : Cx) (W : WX) (e : Option Expr) (w : WO) : Prop where
  ex : ∃ t, PO X e t ∧ ∀ M ρ σ H q eq Q, Rep G M ρ σ H → w ρ q eq → (∀ b ρ' H', Go G M σ ρ H ρ' H' → q b ρ' → Q b H') → Thr G M W σ ρ H eq → t σ H Q
def wNo : WO := fun ρ q _ => q none ρ
def dInt (d : D) (k : Int → Prop) : Prop := match d with
  | .int i => k i
  | _ => False
def wSome (wa : WE) : WO := fun ρ q e => wa ρ (fun s ρ1 => s.gets ρ1 fun d => dInt d fun i => q (some i) ρ1) e
theorem pxo_none : PXO G X W none wNo := ⟨_, po_none, fun M ρ σ H q eq Q rp w k _ => k none ρ H (.refl rp) w⟩
theorem pxo_some {wa : WE} (ha : PX G X W e wa) : PXO G X W (some e) (wSome wa) := by
  obtain ⟨ta, pa, sa⟩ := ha
  refine ⟨_, po_some pa, fun M ρ σ H q eq Q rp w k th => sa M ρ σ H _ eq _ rp w (fun s ρ' v H' g r1 qq => ?_) th⟩
  obtain ⟨d1, a1, w3⟩ := r1.arg g.rep qq
  unfold dInt at w3
  split at w3
  · exact ⟨_, a1.int, k _ ρ' H' g w3⟩
  · exact w3.elim
/-- a part of a list -/
def cutA {α : Type} (xs : List α) (lo hi : Option Int) : List α := (xs.drop (HT.sIx xs.length 0 lo)).take (HT.sIx xs.length xs.length hi - HT.sIx xs.length 0 lo)
theorem RAll.cut {G : Gx} {H : Hp} {vs : List V} {ds : List D} (t : RAll G H vs ds) (lo hi : Option Int) : RAll G H (cutV vs lo hi) (cutA ds lo hi) := by
  unfold cutV cutA
  rw [t.len]
  exact (t.drop _).take _
/-- a slice -/
def dCut (d : D) (lo hi : Option Int) (k : D → Prop) : Prop := match d with
  | .str z => z.length ≤ sizeLine ∧ k (.str (cutS z lo hi))
  | .lst ds => k (.lst (cutA ds lo hi))
  | .tup ds => k (.tup (cutA ds lo hi))
  | _ => False
def wCut (wa : WE) (wl wh : WO) : WE := fun ρ q e => wa ρ (fun s ρ1 => wl ρ1 (fun lo ρ2 => wh ρ2 (fun hi ρ3 => s.gets ρ3 fun d => dCut d lo hi fun d' => q (.val d') ρ3) e) e) e
theorem px_cut {wa : WE} {wl wh : WO} {lo hi : Option Expr} (ha : PX G X W a wa) (hl : PXO G X W lo wl) (hh : PXO G X W hi wh) (hK : X.K = G.K := by rfl) : PX G X W (.Subscript a (.Slice lo hi none p2) pos) (wCut wa wl wh) := by
  obtain ⟨ta, pa, sa⟩ := ha
  obtain ⟨tl, pl, sl⟩ := hl
  obtain ⟨th', ph, sh⟩ := hh
  refine ⟨_, pe_slice (SlR.or sl_str (SlR.or sl_list sl_tupA)) pa pl ph, fun M ρ σ H q eq Q rp w k th => sa M ρ σ H _ eq _ rp w (fun s1 ρ1 x H1 g1 r1 w1 => ?_) th⟩
  refine sl M ρ1 σ H1 _ eq _ g1.rep w1 (fun lo ρ2 H2 g2 w2 => ?_) (th.go g1)
  refine sh M ρ2 σ H2 _ eq _ g2.rep w2 (fun hi ρ3 H3 g3 w3 => ?_) (th.go (g1.trans g2))
  have g := (g1.trans g2).trans g3
  obtain ⟨d, a1, w4⟩ := (r1.go g1.rep (g2.trans g3)).arg g3.rep w3
  unfold dCut at w4
  rw [hK]
  split at w4
  · exact .inl ⟨_, a1.str, w4.1, k (.val (.str _)) ρ3 _ H3 g (R.str _) w4.2⟩
  · obtain ⟨p, xs, rfl, h1, h2⟩ := a1.lst
    refine .inr (.inl ⟨p, xs, rfl, SqL.of h1, fun l hl => ?_⟩)
    exact k (.val _) ρ3 _ _ (g.then_ex (Ex.new hl)) (R.lst (fz_in (g3.rep.new hl) upd_same) ((h2.cut lo hi).ex (fz_step (Ex.new hl)))) w4
  · obtain ⟨p, xs, rfl, h1, h2, h3⟩ := a1.tup
    refine .inr (.inr ⟨p, xs, rfl, h1, fun hq => ?_, fun _ l hl => ?_⟩)
    · refine k (.val _) ρ3 _ _ g ?_ w4
      have e : cutA (_ : List D) lo hi = _ := show (List.drop _ _).take _ = _ from by
        rw [← h2.len, hq.1, hq.2, List.drop_zero, Nat.sub_zero, h2.len, List.take_length]
      rw [e]; exact h3
    · exact k (.val _) ρ3 _ _ (g.then_ex (Ex.new hl)) (R.tup (SqT.of (fz_in (g3.rep.new hl) upd_same)) ((h2.cut lo hi).ex (fz_step (Ex.new hl)))) w4
  · exact w4.elim
/-! ### calls of built-ins -/
def wCall (op : OpN) (wa : WA) : WE := fun ρ q e => wa ρ (fun ss ρ1 => gets2 ρ1 ss fun ds => op ds fun d => q (.val d) ρ1) e
theorem se_call {ta : TA} {wa : WA} {r : List V → Hp → VK → Prop} {op : OpN} (ha : SA G W ta wa) (ho : CallS G op r) : SE G W (tCB r ta) (wCall op wa) := by
  intro M ρ σ H q eq Q rp w k th
  refine ha M ρ σ H _ eq _ rp w (fun s1 ρ1 xs H1 g1 r1 w1 => ?_) th
  obtain ⟨ds, a1, w3⟩ := RSs.args g1.rep r1 w1
  exact ho M H1 xs ds _ g1.rep.tr a1 w3 Q fun d v H' e rd kd => k (.val d) ρ1 v H' (g1.then_ex e) rd kd
theorem px_callB {id : String} {x : Str} {wa : WA} {r : List V → Hp → VK → Prop} {op : OpN} (hc : CallR X (.builtin id) r) (ho : CallS G op r) (hg : Gl X x) (hm : X.mg x = none) (hv : bootBuiltins x = some (.builtin id)) (ha : PXA G X W (e :: es) wa) (hn : x ≠ "__name__" := by decide) (hdb : (x == ("__debug__" : Str)) = false := by decide)
    (he : starEach (e :: es) X.env = (false, eval e X.env) :: starEach es X.env := by rfl) (hpl : (backTo pos (starEach es X.env)).any (·.1) = false := by rfl) : PX G X W (.Call (.Name x p) (e :: es) [] pos) (wCall op wa) := by
  obtain ⟨ta, pa, sa⟩ := ha
  exact ⟨_, pe_callB hc hg hm hv pa hn hdb he hpl, se_call sa ho⟩
theorem px_callT {id : String} {x : Str} {wa : WA} {r : List V → Hp → VK → Prop} {op : OpN} (hc : CallR X (.type id) r) (ho : CallS G op r) (hg : Gl X x) (hm : X.mg x = none) (hv : bootBuiltins x = some (.type id)) (ha : PXA G X W (e :: es) wa) (hn : x ≠ "__name__" := by decide) (hdb : (x == ("__debug__" : Str)) = false := by decide)
    (he : starEach (e :: es) X.env = (false, eval e X.env) :: starEach es X.env := by rfl) (hpl : (backTo pos (starEach es X.env)).any (·.1) = false := by rfl) : PX G X W (.Call (.Name x p) (e :: es) [] pos) (wCall op wa) := by
  obtain ⟨ta, pa, sa⟩ := ha
  exact ⟨_, pe_callTy hc hg hm hv pa hn hdb he hpl, se_call sa ho⟩
/-- a method of a built-in type that changes nothing -/
def tyD (T : String) : D → Prop
  | .str _ => T = "str"
  | .lst _ => T = "list"
  | .dct _ _ => T = "dict"
  | _ => False
def wMeth (T : String) (op : D → OpN) (wo : WE) (wa : WA) : WE := fun ρ q e => wo ρ (fun s ρ1 => s.gets ρ1 fun d0 => tyD T d0 ∧ wa ρ1 (fun ss ρ2 => s.gets ρ2 fun d => gets2 ρ2 ss fun ds => op d ds fun d' => q (.val d') ρ2) e) e
theorem tyD_of {M : List Addr} {H : Hp} {v : V} {d : D} {T : String} (hd : ∀ a ks vs, DctAt G H a ks vs → ∃ kvs, H a = some (.dK kvs)) (a : Arg G M H v d) (h : tyD T d) : tyV G.K T v H := by
  cases d <;> first | exact h.elim | skip
  · rw [a.str]; exact h
  · obtain ⟨p, xs, rfl, h1, _⟩ := a.lst
    exact .inl ⟨h, xs, SqL.of h1⟩
  · obtain ⟨p, ks, vs, rfl, h1⟩ : ∃ p ks vs, v = .ref p ∧ DctAt G H p ks vs := by
      have := a.full
      cases this with | dct x y z => exact ⟨_, _, _, rfl, x⟩
    obtain ⟨kvs, e⟩ := hd _ _ _ h1
    exact .inr (.inr (.inl ⟨h, .inl ⟨kvs, e⟩⟩))
theorem tyD_str {M : List Addr} {H : Hp} {v : V} {d : D} (a : Arg G M H v d) (h : tyD "str" d) : tyV G.K "str" v H := by
  cases d <;> first | exact h.elim | skip
  · rw [a.str]; exact h
  · exact absurd (show (_ : String) = _ from h) (by decide)
  · exact absurd (show (_ : String) = _ from h) (by decide)
theorem tyD_list {M : List Addr} {H : Hp} {v : V} {d : D} (a : Arg G M H v d) (h : tyD "list" d) : tyV G.K "list" v H := by
  cases d <;> first | exact h.elim | skip
  · exact absurd (show (_ : String) = _ from h) (by decide)
  · obtain ⟨p, xs, rfl, h1, _⟩ := a.lst
    exact .inl ⟨h, xs, SqL.of h1⟩
  · exact absurd (show (_ : String) = _ from h) (by decide)
section
variable {o : Expr} {apos cpos : Pos} {name : Str} {T id : String} {op : D → OpN} {r : V → List V → Hp → VK → Prop} {wo : WE} {wa : WA}
theorem px_meth (pa : PlainAttrs T) (slot : Slot T name id) (hty : typeOf (.builtin id) = pure (.type "method_descriptor")) (hT : ∀ M H v d, Arg G M H v d → tyD T d → tyV G.K T v H) (hm : MtR X id r) (hs : MethS G T op r) (ho : PX G X W o wo) (ha : PXA G X W (e :: es) wa)
    (h1 : attributeBase o name X.env (eval o X.env) = eval o X.env := by rfl) (h2 : Few X e es cpos := by rfl) (h3 : (apos.endLine == cpos.line) = true := by rfl) (h4 : starEach (e :: es) X.env = (false, eval e X.env) :: starEach es X.env := by rfl)
    (h5 : (backTo cpos (starEach es X.env)).any (·.1) = false := by rfl) (hK : X.K = G.K := by rfl) : PX G X W (.Call (.Attribute o name apos) (e :: es) [] cpos) (wMeth T op wo wa) := by
  obtain ⟨to, po, so⟩ := ho
  obtain ⟨ta, pa', sa⟩ := ha
  refine ⟨_, pe_bmK (K := G.K) pa slot hty hm po pa' h1 h2 h3 h4 h5 hK, fun M ρ σ H q eq Q rp w k th => so M ρ σ H _ eq _ rp w (fun s1 ρ1 x H1 g1 r1 w1 => ?_) th⟩
  obtain ⟨d0, a0, t0, w2⟩ := r1.arg g1.rep w1
  refine ⟨hT M H1 x d0 a0 t0, sa M ρ1 σ H1 _ eq _ g1.rep w2 (fun ss ρ2 xs H2 g2 r2 w3 => ?_) (th.go g1)⟩
  obtain ⟨d, a1, w4⟩ := (r1.go g1.rep g2).arg g2.rep w3
  obtain ⟨ds, a2, w5⟩ := RSs.args g2.rep r2 w4
  exact hs M H2 x d xs ds _ g2.rep.tr a1 a2 w5 Q fun d v H' e rd kd => k (.val d) ρ2 v H' ((g1.trans g2).then_ex e) rd kd
theorem px_meth0 (pa : PlainAttrs T) (slot : Slot T name id) (hty : typeOf (.builtin id) = pure (.type "method_descriptor")) (hT : ∀ M H v d, Arg G M H v d → tyD T d → tyV G.K T v H) (hm : MtR X id r) (hs : MethS G T op r) (ho : PX G X W o wo)
    (h1 : attributeBase o name X.env (eval o X.env) = eval o X.env := by rfl) (h3 : (apos.endLine == cpos.line) = true := by rfl) (hK : X.K = G.K := by rfl) : PX G X W (.Call (.Attribute o name apos) [] [] cpos) (wMeth T op wo wNil) := by
  obtain ⟨to, po, so⟩ := ho
  refine ⟨_, pe_bm0K (K := G.K) pa slot hty hm po h1 h3 hK, fun M ρ σ H q eq Q rp w k th => so M ρ σ H _ eq _ rp w (fun s1 ρ1 x H1 g1 r1 w1 => ?_) th⟩
  obtain ⟨d0, a0, t0, w2⟩ := r1.arg g1.rep w1
  refine ⟨hT M H1 x d0 a0 t0, ?_⟩
  obtain ⟨d, a1, w4⟩ := r1.arg g1.rep w2
  exact hs M H1 x d [] [] _ g1.rep.tr a1 .nil w4 Q fun d v H' e rd kd => k (.val d) ρ1 v H' (g1.then_ex e) rd kd
end
end
end Pu
/-! ### the pure layer: what the operators and built-ins give -/
namespace Pu
open PySem PySem.Spec PyProof.Rows L2 Lk Evl
variable {G : Gx} {X : Cx}
theorem r_new_lst {M : List Addr} {H : Hp} {p : Addr} {xs : List V} {ds : List D} (t : Trk M H) (hp : H p = none) (h : RAll G (Fz M H) xs ds) : R G (Fz M (upd H p (.lst xs))) (.ref p) (.lst ds) := .lst (fz_in (t.new hp) upd_same) (h.ex (fz_step (Ex.new hp)))
theorem r_new_tup {M : List Addr} {H : Hp} {p : Addr} {xs : List V} {ds : List D} (t : Trk M H) (hp : H p = none) (h : RAll G (Fz M H) xs ds) : R G (Fz M (upd H p (.tup xs))) (.ref p) (.tup ds) := .tup (SqT.of (fz_in (t.new hp) upd_same)) (h.ex (fz_step (Ex.new hp)))
/-! ### arithmetic -/
def dAdd : Op2 := fun x y k => match x, y with
  | .int i, .int j => k (.int (i + j))
  | .str a, .str b => a.length + b.length ≤ sizeLine ∧ k (.str (a ++ b))
  | .lst a, .lst b => a.length + b.length ≤ sizeLine ∧ k (.lst (a ++ b))
  | .tup a, .tup b => a.length + b.length ≤ sizeLine ∧ k (.tup (a ++ b))
  | _, _ => False
abbrev rAddU (K : PySem.W.Frag) : R2 := fun x y H Q => rI0 (fun i j => .int (i + j)) x y H Q ∨ (∃ i j, x = .str i ∧ y = .str j ∧ i.length + j.length ≤ sizeLine ∧ Q (.str (i ++ j)) H) ∨ rCat x y H Q ∨ rCatA K x y H Q
theorem add_ok (hK : X.K = G.K := by rfl) : OpR X (binaryOp .Add) (rAddU G.K) := by
  rw [← hK]; exact OpR.or op_add (OpR.or op_add_str (OpR.or op_cat op_catA))
theorem add_s : OpS G dAdd (rAddU G.K) := by
  intro M H x y d1 d2 k t a1 a2 h Q q
  unfold dAdd at h
  split at h
  · exact .inl ⟨_, _, a1.int, a2.int, q (.int _) _ H (Ex.refl _) (R.int _) h⟩
  · exact .inr (.inl ⟨_, _, a1.str, a2.str, h.1, q (.str _) _ H (Ex.refl _) (R.str _) h.2⟩)
  · obtain ⟨p, xs, rfl, h1, h2⟩ := a1.lst
    obtain ⟨p', xs', rfl, h1', h2'⟩ := a2.lst
    refine .inr (.inr (.inl ⟨p, p', xs, xs', rfl, rfl, h1, h1', by rw [h2.len, h2'.len]; exact h.1, fun l hl => ?_⟩))
    exact q _ _ _ (Ex.new hl) (r_new_lst t hl (h2.app h2')) h.2
  · rename_i a b
    obtain ⟨p, xs, rfl, h1, h2, h3⟩ := a1.tup
    obtain ⟨p', xs', rfl, h1', h2', h3'⟩ := a2.tup
    refine .inr (.inr (.inr ⟨p, p', xs, xs', rfl, rfl, h1, h1', by rw [h2.len, h2'.len]; exact h.1, fun e => ?_, fun _ e => ?_, fun _ _ l hl => ?_⟩))
    · subst e
      cases h2
      exact q _ _ H (Ex.refl _) h3' h.2
    · subst e
      cases h2'
      rw [List.append_nil] at h
      exact q _ _ H (Ex.refl _) h3 h.2
    · exact q _ _ _ (Ex.new hl) (r_new_tup t hl (h2.app h2')) h.2
  · exact h.elim
def dI2 (C : Int → Int → Prop) (g : Int → Int → Int) : Op2 := fun x y k => match x, y with
  | .int i, .int j => C i j ∧ k (.int (g i j))
  | _, _ => False
theorem i2_s {C : Int → Int → Prop} {g : Int → Int → Int} : OpS G (dI2 C g) (rI C fun i j => .int (g i j)) := by
  intro M H x y d1 d2 k t a1 a2 h Q q
  unfold dI2 at h
  split at h
  · exact ⟨_, _, a1.int, a2.int, h.1, q (.int _) _ H (Ex.refl _) (R.int _) h.2⟩
  · exact h.elim
def dSub : Op2 := fun x y k => match x, y with
  | .int i, .int j => k (.int (i - j))
  | _, _ => False
theorem sub_ok : OpR X (binaryOp .Sub) (rI (fun _ _ => True) fun i j => .int (i - j)) := fun pins s σ H x y v u Q I r1 r2 h => by
  obtain ⟨i, j, e1, e2, _, q⟩ := h
  exact op_sub pins s σ H x y v u Q I r1 r2 ⟨i, j, e1, e2, q⟩
theorem sub_s : OpS G dSub (rI (fun _ _ => True) fun i j => .int (i - j)) := by
  intro M H x y d1 d2 k t a1 a2 h Q q
  unfold dSub at h
  split at h
  · exact ⟨_, _, a1.int, a2.int, trivial, q (.int _) _ H (Ex.refl _) (R.int _) h⟩
  · exact h.elim
def CMod (i j : Int) : Prop := 0 < j
def dMod : Op2 := fun x y k => match x, y with
  | .int i, .int j => 0 < j ∧ k (.int (i % j))
  | _, _ => False
theorem mod_ok : OpR X (binaryOp .Mod) (rI CMod fun i j => .int (i % j)) := fun pins s σ H x y v u Q I r1 r2 h => by
  obtain ⟨i, j, e1, e2, hc, q⟩ := h
  have hc' : 0 < j := hc
  exact op_modN pins s σ H x y v u Q I r1 r2 ⟨i, j, e1, e2, Int.ne_of_gt hc', by show Q (V.int (i.fmod j)) H; rw [Int.fmod_eq_emod_of_nonneg _ (Int.le_of_lt hc')]; exact q⟩
theorem mod_s : OpS G dMod (rI CMod fun i j => .int (i % j)) := by
  intro M H x y d1 d2 k t a1 a2 h Q q
  unfold dMod at h
  split at h
  · exact ⟨_, _, a1.int, a2.int, h.1, q (.int _) _ H (Ex.refl _) (R.int _) h.2⟩
  · exact h.elim
def CFd (i j : Int) : Prop := 0 < j ∧ j < 2 ^ 200
def dFdiv : Op2 := fun x y k => match x, y with
  | .int i, .int j => CFd i j ∧ k (.int (i / j))
  | _, _ => False
theorem fdiv_ok : OpR X (binaryOp .FloorDiv) (rI CFd fun i j => .int (i / j)) := opI fun i j t u s Q E hc q => by
  obtain ⟨h1, h2⟩ := hc
  refine floordiv_int (Int.ne_of_gt h1) (by rw [Int.fdiv_eq_ediv_of_nonneg i (Int.le_of_lt h1)]; exact q) (.inl (PyProof.noPylong_of_log2 ?_))
  have h3 : j.natAbs ≠ 0 := by omega
  have h4 : j.natAbs < 2 ^ 200 := by
    have e : ((j.natAbs : Nat) : Int) = j := Int.natAbs_of_nonneg (Int.le_of_lt h1)
    have h5 : ((j.natAbs : Nat) : Int) < ((2 ^ 200 : Nat) : Int) := by rw [e, Int.natCast_pow]; exact h2
    exact Int.ofNat_lt.mp h5
  exact Nat.lt_trans ((Nat.log2_lt h3).mpr h4) (by decide)
theorem fdiv_s : OpS G dFdiv (rI CFd fun i j => .int (i / j)) := by
  intro M H x y d1 d2 k t a1 a2 h Q q
  unfold dFdiv at h
  split at h
  · exact ⟨_, _, a1.int, a2.int, h.1, q (.int _) _ H (Ex.refl _) (R.int _) h.2⟩
  · exact h.elim
def dPow : Op2 := fun x y k => match x, y with
  | .int i, .int j => CPowB i j ∧ k (.int (i ^ j.toNat))
  | _, _ => False
theorem pow_ok : OpR X (binaryOp .Pow) (rI CPowB fun i j => .int (i ^ j.toNat)) := op_powB
theorem pow_s : OpS G dPow (rI CPowB fun i j => .int (i ^ j.toNat)) := by
  intro M H x y d1 d2 k t a1 a2 h Q q
  unfold dPow at h
  split at h
  · exact ⟨_, _, a1.int, a2.int, h.1, q (.int _) _ H (Ex.refl _) (R.int _) h.2⟩
  · exact h.elim
/-- products: of ints (one of them below 2^64), texts and lists repeated -/
def dMul : Op2 := fun x y k => match x, y with
  | .int i, .int j => CMul i j ∧ k (.int (i * j))
  | .str z, .int n => ∃ m : Nat, n = m ∧ z.length * m ≤ 16777216 ∧ m ≤ 16777216 ∧ k (.str (repS z m))
  | .lst ds, .int n => -(2 ^ 63) ≤ n ∧ n < 2 ^ 63 ∧ ds.length * n.toNat ≤ sizeLine ∧ k (.lst (List.replicate n.toNat ds).flatten)
  | .tup ds, .int n => ds ≠ [] ∧ 2 ≤ n ∧ n ≤ 1000 ∧ ds.length ≤ 1000 ∧ k (.tup (List.replicate n.toNat ds).flatten)
  | _, _ => False
abbrev rMulU (K : PySem.W.Frag) : R2 := fun x y H Q => rI CMul (fun i j => .int (i * j)) x y H Q ∨ (∃ (z : Str) (n : Nat), x = .str z ∧ y = .int n ∧ z.length * n ≤ 16777216 ∧ n ≤ 16777216 ∧ Q (.str (repS z n)) H) ∨ rRep x y H Q ∨ rRepT K x y H Q
theorem mul_ok (hK : X.K = G.K := by rfl) : OpR X (binaryOp .Mult) (rMulU G.K) := by
  rw [← hK]; exact OpR.or op_mul (OpR.or op_rep_str (OpR.or op_rep op_repT))
theorem RAll.rep {H : Hp} {xs : List V} {ds : List D} (h : RAll G H xs ds) : ∀ n : Nat, RAll G H (List.replicate n xs).flatten (List.replicate n ds).flatten
  | 0 => .nil
  | n + 1 => by rw [List.replicate_succ, List.replicate_succ, List.flatten_cons, List.flatten_cons]; exact h.app (RAll.rep h n)
theorem mul_s : OpS G dMul (rMulU G.K) := by
  intro M H x y d1 d2 k t a1 a2 h Q q
  unfold dMul at h
  split at h
  · exact .inl ⟨_, _, a1.int, a2.int, h.1, q (.int _) _ H (Ex.refl _) (R.int _) h.2⟩
  · obtain ⟨m, rfl, h1, h2, h3⟩ := h
    exact .inr (.inl ⟨_, m, a1.str, a2.int, h1, h2, q (.str _) _ H (Ex.refl _) (R.str _) h3⟩)
  · obtain ⟨p, xs, rfl, h1, h2⟩ := a1.lst
    obtain ⟨c1, c2, c3, c4⟩ := h
    exact .inr (.inr (.inl ⟨p, _, xs, rfl, a2.int, h1, c1, c2, by rw [h2.len]; exact c3, fun l hl => q _ _ _ (Ex.new hl) (r_new_lst t hl (h2.rep _)) c4⟩))
  · obtain ⟨p, xs, rfl, h1, h2, _⟩ := a1.tup
    obtain ⟨c0, c1, c2, c3, c4⟩ := h
    refine .inr (.inr (.inr ⟨p, _, xs, rfl, a2.int, h1, fun e => ?_, c1, c2, by rw [h2.len]; exact c3, fun l hl => q _ _ _ (Ex.new hl) (r_new_tup t hl (h2.rep _)) c4⟩))
    subst e
    cases h2
    exact c0 rfl
  · exact h.elim
def dNeg : Op1 := fun x k => match x with
  | .int i => k (.int (-i))
  | _ => False
theorem neg_s : UnS G dNeg (rU fun i => .int (-i)) := by
  intro M H x d1 k t a1 h Q q
  unfold dNeg at h
  split at h
  · exact ⟨_, a1.int, q (.int _) _ H (Ex.refl _) (R.int _) h⟩
  · exact h.elim
/-! ### comparisons -/
/-- equality of plain data -/
structure EqD (x y : D) (k : Bool → Prop) : Prop where
  ok : match x.py, y.py with
    | some p, some q => SeqAt.shaped p = true ∧ SeqAt.shaped q = true ∧ k (PyData.eqv p q)
    | _, _ => False
/-- are two values equal: scalars, plain data -/
def dEqB (x y : D) (k : Bool → Prop) : Prop := match x, y with
  | .str a, .str b => k (decide (a = b))
  | .int a, .int b => k (decide (a = b))
  | .bl a, .bl b => k (decide (a = b))
  | .non, .non => k true
  | x, y => EqD x y k
def dEq : Op2 := fun x y k => dEqB x y fun b => k (.bl b)
def dNe : Op2 := fun x y k => dEqB x y fun b => k (.bl (!b))
abbrev rEqU (K : PySem.W.Frag) : R2 := fun x y H Q => rEq x y H Q ∨ rEqD K x y H Q
abbrev rNeU (K : PySem.W.Frag) : R2 := fun x y H Q => rNe x y H Q ∨ rNeD K x y H Q
theorem eq_ok (hu : X.A.units + 64 < cLine) (hK : X.K = G.K := by rfl) : OpR X (compareOp .Eq) (rEqU G.K) := by
  rw [← hK]; exact OpR.or op_eq (op_eqD hu)
theorem ne_ok (hu : X.A.units + 64 < cLine) (hK : X.K = G.K := by rfl) : OpR X (compareOp .NotEq) (rNeU G.K) := by
  rw [← hK]; exact OpR.or op_ne (op_neD hu)
theorem v_str {a b : Str} : decide (V.str a = V.str b) = decide (a = b) := by
  apply decide_eq_decide.mpr; exact ⟨fun h => V.str.inj h, fun h => by rw [h]⟩
theorem v_int {a b : Int} : decide (V.int a = V.int b) = decide (a = b) := by
  apply decide_eq_decide.mpr; exact ⟨fun h => V.int.inj h, fun h => by rw [h]⟩
theorem v_bl {a b : Bool} : decide (V.bl a = V.bl b) = decide (a = b) := by
  apply decide_eq_decide.mpr; exact ⟨fun h => V.bl.inj h, fun h => by rw [h]⟩
theorem eqB_of {M : List Addr} {H : Hp} {x y : V} {d1 d2 : D} {k : Bool → Prop} (a1 : Arg G M H x d1) (a2 : Arg G M H y d2) (h : dEqB d1 d2 k) :
    ∃ b, k b ∧ ((scal x y = true ∧ b = decide (x = y)) ∨ ∃ p q, Dp G.K H x p ∧ Dp G.K H y q ∧ SeqAt.shaped p = true ∧ SeqAt.shaped q = true ∧ b = PyData.eqv p q) := by
  unfold dEqB at h
  split at h
  · exact ⟨_, h, .inl (by rw [a1.str, a2.str]; exact ⟨rfl, v_str.symm⟩)⟩
  · exact ⟨_, h, .inl (by rw [a1.int, a2.int]; exact ⟨rfl, v_int.symm⟩)⟩
  · exact ⟨_, h, .inl (by rw [a1.bl, a2.bl]; exact ⟨rfl, v_bl.symm⟩)⟩
  · exact ⟨_, h, .inl (by rw [a1.non, a2.non]; exact ⟨rfl, rfl⟩)⟩
  · obtain ⟨h⟩ := h
    split at h
    · rename_i p q e1 e2
      exact ⟨_, h.2.2, .inr ⟨p, q, a1.full.dp _ e1, a2.full.dp _ e2, h.1, h.2.1, rfl⟩⟩
    · exact h.elim
theorem eq_s : OpS G dEq (rEqU G.K) := by
  intro M H x y d1 d2 k t a1 a2 h Q q
  obtain ⟨b, kb, h | h⟩ := eqB_of a1 a2 h
  · exact .inl ⟨h.1, by rw [← h.2]; exact q (.bl _) _ H (Ex.refl _) (R.bl _) kb⟩
  · obtain ⟨p, r, h1, h2, h3, h4, h5⟩ := h
    exact .inr ⟨p, r, h1, h2, h3, h4, by rw [← h5]; exact q (.bl _) _ H (Ex.refl _) (R.bl _) kb⟩
theorem ne_s : OpS G dNe (rNeU G.K) := by
  intro M H x y d1 d2 k t a1 a2 h Q q
  obtain ⟨b, kb, h | h⟩ := eqB_of a1 a2 h
  · exact .inl ⟨h.1, by rw [← h.2]; exact q (.bl _) _ H (Ex.refl _) (R.bl _) kb⟩
  · obtain ⟨p, r, h1, h2, h3, h4, h5⟩ := h
    exact .inr ⟨p, r, h1, h2, h3, h4, by rw [← h5]; exact q (.bl _) _ H (Ex.refl _) (R.bl _) kb⟩
/-- order: of ints, of texts -/
def dLt : Op2 := fun x y k => match x, y with
  | .int i, .int j => k (.bl (decide (i < j)))
  | .str a, .str b => k (.bl (decide (a.cps.toList < b.cps.toList)))
  | _, _ => False
def dLe : Op2 := fun x y k => match x, y with
  | .int i, .int j => k (.bl (decide (i ≤ j)))
  | .str a, .str b => k (.bl (!decide (b.cps.toList < a.cps.toList)))
  | _, _ => False
def dGt : Op2 := fun x y k => match x, y with
  | .int i, .int j => k (.bl (decide (j < i)))
  | .str a, .str b => k (.bl (decide (b.cps.toList < a.cps.toList)))
  | _, _ => False
def dGe : Op2 := fun x y k => match x, y with
  | .int i, .int j => k (.bl (decide (j ≤ i)))
  | .str a, .str b => k (.bl (!decide (a.cps.toList < b.cps.toList)))
  | _, _ => False
abbrev rOrd (f : Int → Int → Bool) (g : List Nat → List Nat → Bool) : R2 := fun x y H Q => rI0 (fun i j => .bl (f i j)) x y H Q ∨ ∃ i j, x = .str i ∧ y = .str j ∧ Q (.bl (g i.cps.toList j.cps.toList)) H
theorem lt_s : OpS G dLt (rOrd (fun i j => decide (i < j)) (fun a b => decide (a < b))) := by
  intro M H x y d1 d2 k t a1 a2 h Q q
  unfold dLt at h
  split at h
  · exact .inl ⟨_, _, a1.int, a2.int, q (.bl _) _ H (Ex.refl _) (R.bl _) h⟩
  · exact .inr ⟨_, _, a1.str, a2.str, q (.bl _) _ H (Ex.refl _) (R.bl _) h⟩
  · exact h.elim
theorem le_s : OpS G dLe (rOrd (fun i j => decide (i ≤ j)) (fun a b => !decide (b < a))) := by
  intro M H x y d1 d2 k t a1 a2 h Q q
  unfold dLe at h
  split at h
  · exact .inl ⟨_, _, a1.int, a2.int, q (.bl _) _ H (Ex.refl _) (R.bl _) h⟩
  · exact .inr ⟨_, _, a1.str, a2.str, q (.bl _) _ H (Ex.refl _) (R.bl _) h⟩
  · exact h.elim
theorem gt_s : OpS G dGt (rOrd (fun i j => decide (j < i)) (fun a b => decide (b < a))) := by
  intro M H x y d1 d2 k t a1 a2 h Q q
  unfold dGt at h
  split at h
  · exact .inl ⟨_, _, a1.int, a2.int, q (.bl _) _ H (Ex.refl _) (R.bl _) h⟩
  · exact .inr ⟨_, _, a1.str, a2.str, q (.bl _) _ H (Ex.refl _) (R.bl _) h⟩
  · exact h.elim
theorem ge_s : OpS G dGe (rOrd (fun i j => decide (j ≤ i)) (fun a b => !decide (a < b))) := by
  intro M H x y d1 d2 k t a1 a2 h Q q
  unfold dGe at h
  split at h
  · exact .inl ⟨_, _, a1.int, a2.int, q (.bl _) _ H (Ex.refl _) (R.bl _) h⟩
  · exact .inr ⟨_, _, a1.str, a2.str, q (.bl _) _ H (Ex.refl _) (R.bl _) h⟩
  · exact h.elim
theorem lt_ok : OpR X (compareOp .Lt) (rOrd (fun i j => decide (i < j)) fun a b => decide (a < b)) := OpR.or op_lt op_lt_str
theorem le_ok : OpR X (compareOp .LtE) (rOrd (fun i j => decide (i ≤ j)) fun a b => !decide (b < a)) := OpR.or op_le op_le_str
theorem gt_ok : OpR X (compareOp .Gt) (rOrd (fun i j => decide (j < i)) fun a b => decide (b < a)) := OpR.or op_gt op_gt_str
theorem ge_ok : OpR X (compareOp .GtE) (rOrd (fun i j => decide (j ≤ i)) fun a b => !decide (a < b)) := OpR.or op_ge op_ge_str
/-! ### in -/
def D.leaf : D → Bool
  | .non | .bl _ | .int _ | .str _ => true
  | _ => false
def D.v : D → V
  | .non => .non
  | .bl b => .bl b
  | .int i => .int i
  | .str x => .str x
  | _ => .non
theorem R.leaf {H : Hp} {v : V} {d : D} (h : R G H v d) (l : d.leaf = true) : v = d.v ∧ flatV v = true := by
  cases h <;> first | (exact ⟨rfl, rfl⟩) | cases l
theorem RAll.leaf {H : Hp} : ∀ {vs : List V} {ds : List D}, RAll G H vs ds → ds.all D.leaf = true → vs = ds.map D.v ∧ vs.all flatV = true
  | _, _, .nil, _ => ⟨rfl, rfl⟩
  | _, _, .cons h t, l => by
    rw [List.all_cons, Bool.and_eq_true] at l
    obtain ⟨e1, f1⟩ := h.leaf l.1
    obtain ⟨e2, f2⟩ := t.leaf l.2
    rw [e2] at f2
    subst e1; subst e2
    exact ⟨rfl, by rw [List.all_cons, f1, f2]; rfl⟩
structure InL (x : D) (ds : List D) (k : Bool → Prop) : Prop where
  ok : (x.leaf = true ∧ ds.all D.leaf = true ∧ k (inV x.v (ds.map D.v))) ∨ ∃ p ps, x.py = some p ∧ D.pys ds = some ps ∧ SeqAt.shaped p = true ∧ SeqAt.shaped (.list ps) = true ∧ k (ps.any fun z => PyData.eqv z p)
/-- x in y: a sign or a text in a text; a scalar among scalars; data in a list -/
def dInB (x y : D) (k : Bool → Prop) : Prop := match x, y with
  | .str a, .str b => match a.cps.toList with
    | [c] => k (decide (c ∈ b.cps.toList))
    | _ => k (!(Builtin.Str.occurrences b a 0 b.length 1).isEmpty)
  | x, .lst ds => InL x ds k
  | x, .tup ds => x.leaf = true ∧ ds.all D.leaf = true ∧ k (inV x.v (ds.map D.v))
  | _, _ => False
def dIn : Op2 := fun x y k => dInB x y fun b => k (.bl b)
def dNotIn : Op2 := fun x y k => dInB x y fun b => k (.bl (!b))
abbrev rInU (K : PySem.W.Frag) : R2 := fun x y H Q => rInS x y H Q ∨ (∃ i j, x = .str i ∧ y = .str j ∧ Q (.bl (!(Builtin.Str.occurrences j i 0 j.length 1).isEmpty)) H) ∨ rIn K false x y H Q ∨ rInD K x y H Q
abbrev rNotInU (K : PySem.W.Frag) : R2 := fun x y H Q => rNotInS x y H Q ∨ (∃ i j, x = .str i ∧ y = .str j ∧ Q (.bl (!(!(Builtin.Str.occurrences j i 0 j.length 1).isEmpty))) H) ∨ rIn K true x y H Q ∨ rNotInD K x y H Q
theorem in_ok (hu : X.A.units + 65 < cLine) (hK : X.K = G.K := by rfl) : OpR X (compareOp .In) (rInU G.K) := by
  rw [← hK]; exact OpR.or op_inS (OpR.or op_in_str (OpR.or op_in_seq (op_inD hu)))
theorem notIn_ok (hu : X.A.units + 65 < cLine) (hK : X.K = G.K := by rfl) : OpR X (compareOp .NotIn) (rNotInU G.K) := by
  rw [← hK]; exact OpR.or op_notInS (OpR.or op_notIn_str (OpR.or op_notIn_seq (op_notInD hu)))
theorem str_one {a : Str} {c : Nat} (h : a.cps.toList = [c]) : a = ⟨#[c]⟩ := by
  cases a with | mk x => congr 1; exact Array.ext' (by simpa using h)
theorem inB_of {M : List Addr} {H : Hp} {x y : V} {d1 d2 : D} {k : Bool → Prop} (a1 : Arg G M H x d1) (a2 : Arg G M H y d2) (h : dInB d1 d2 k) :
    ∃ b, k b ∧ ((∃ (c : Nat) (z : Str), x = .str ⟨#[c]⟩ ∧ y = .str z ∧ b = decide (c ∈ z.cps.toList)) ∨ (∃ i j : Str, x = .str i ∧ y = .str j ∧ b = !(Builtin.Str.occurrences j i 0 j.length 1).isEmpty) ∨
      (∃ p xs, y = .ref p ∧ (SqL G.K H p xs ∨ SqT G.K H p xs) ∧ flatV x = true ∧ xs.all flatV = true ∧ b = inV x xs) ∨ ∃ d ds, Dp G.K H x d ∧ Dp G.K H y (.list ds) ∧ SeqAt.shaped d = true ∧ SeqAt.shaped (.list ds) = true ∧ b = ds.any fun z => PyData.eqv z d) := by
  unfold dInB at h
  split at h
  · split at h
    · rename_i c e
      exact ⟨_, h, .inl ⟨c, _, by rw [a1.str, str_one e], a2.str, rfl⟩⟩
    · exact ⟨_, h, .inr (.inl ⟨_, _, a1.str, a2.str, rfl⟩)⟩
  · rcases h.ok with ⟨c1, c2, h⟩ | ⟨p, ps, e1, e2, c1, c2, h⟩
    · obtain ⟨p, xs, rfl, h1, h2⟩ := a2.lst
      obtain ⟨e1, f1⟩ := a1.full.leaf c1
      obtain ⟨e2, f2⟩ := h2.leaf c2
      exact ⟨_, h, .inr (.inr (.inl ⟨p, xs, rfl, .inl (SqL.of h1), f1, f2, by rw [e1, e2]⟩))⟩
    · exact ⟨_, h, .inr (.inr (.inr ⟨p, ps, a1.full.dp _ e1, a2.full.dp _ (by rw [D.py, e2]; rfl), c1, c2, rfl⟩))⟩
  · obtain ⟨p, xs, rfl, h1, h2, _⟩ := a2.tup
    obtain ⟨c1, c2, c3⟩ := h
    obtain ⟨e1, f1⟩ := a1.full.leaf c1
    obtain ⟨e2, f2⟩ := h2.leaf c2
    exact ⟨_, c3, .inr (.inr (.inl ⟨p, xs, rfl, .inr h1, f1, f2, by rw [e1, e2]⟩))⟩
  · exact h.elim
theorem in_s : OpS G dIn (rInU G.K) := by
  intro M H x y d1 d2 k t a1 a2 h Q q
  obtain ⟨b, kb, h | h | h | h⟩ := inB_of a1 a2 h
  · obtain ⟨c, z, e1, e2, e3⟩ := h
    exact .inl ⟨c, z, e1, e2, by rw [← e3]; exact q (.bl _) _ H (Ex.refl _) (R.bl _) kb⟩
  · obtain ⟨c, z, e1, e2, e3⟩ := h
    exact .inr (.inl ⟨c, z, e1, e2, by rw [← e3]; exact q (.bl _) _ H (Ex.refl _) (R.bl _) kb⟩)
  · obtain ⟨p, xs, e1, e2, e3, e4, e5⟩ := h
    exact .inr (.inr (.inl ⟨p, xs, e1, e2, e3, e4, by rw [if_neg Bool.false_ne_true, ← e5]; exact q (.bl _) _ H (Ex.refl _) (R.bl _) kb⟩))
  · obtain ⟨p, xs, e1, e2, e3, e4, e5⟩ := h
    exact .inr (.inr (.inr ⟨p, xs, e1, e2, e3, e4, by rw [← e5]; exact q (.bl _) _ H (Ex.refl _) (R.bl _) kb⟩))
theorem notIn_s : OpS G dNotIn (rNotInU G.K) := by
  intro M H x y d1 d2 k t a1 a2 h Q q
  obtain ⟨b, kb, h | h | h | h⟩ := inB_of a1 a2 h
  · obtain ⟨c, z, e1, e2, e3⟩ := h
    exact .inl ⟨c, z, e1, e2, by rw [← e3]; exact q (.bl _) _ H (Ex.refl _) (R.bl _) kb⟩
  · obtain ⟨c, z, e1, e2, e3⟩ := h
    exact .inr (.inl ⟨c, z, e1, e2, by rw [← e3]; exact q (.bl _) _ H (Ex.refl _) (R.bl _) kb⟩)
  · obtain ⟨p, xs, e1, e2, e3, e4, e5⟩ := h
    exact .inr (.inr (.inl ⟨p, xs, e1, e2, e3, e4, by rw [if_pos rfl, ← e5]; exact q (.bl _) _ H (Ex.refl _) (R.bl _) kb⟩))
  · obtain ⟨p, xs, e1, e2, e3, e4, e5⟩ := h
    exact .inr (.inr (.inr ⟨p, xs, e1, e2, e3, e4, by rw [← e5]; exact q (.bl _) _ H (Ex.refl _) (R.bl _) kb⟩))
/-- is None -/
def D.isNon : D → Bool
  | .non => true
  | _ => false
def dIsN : Op2 := fun x y k => match y with
  | .non => k (.bl x.isNon)
  | _ => False
def dNotN : Op2 := fun x y k => match y with
  | .non => k (.bl (!x.isNon))
  | _ => False
theorem isNon_of {H : Hp} {x : V} {d : D} (h : R G H x d) : decide (x = .non) = d.isNon := by
  cases h <;> first | rfl | (exact decide_eq_false (by intro z; cases z))
theorem isN_s : OpS G dIsN rIsN := by
  intro M H x y d1 d2 k t a1 a2 h Q q
  unfold dIsN at h
  split at h
  · exact ⟨a2.non, by rw [isNon_of a1.full]; exact q (.bl _) _ H (Ex.refl _) (R.bl _) h⟩
  · exact h.elim
theorem notN_s : OpS G dNotN rNotN := by
  intro M H x y d1 d2 k t a1 a2 h Q q
  unfold dNotN at h
  split at h
  · exact ⟨a2.non, by rw [isNon_of a1.full]; exact q (.bl _) _ H (Ex.refl _) (R.bl _) h⟩
  · exact h.elim
/-! ### an item -/
def dIx : Op2 := fun x y k => match x, y with
  | .lst ds, .int i => ∃ d, atI ds i = some d ∧ k d
  | .sl ds, .int i => ∃ d, atI ds i = some d ∧ k d
  | .tup ds, .int i => ∃ d, atI ds i = some d ∧ k d
  | .str z, .int i => z.length ≤ sizeLine ∧ ∃ c, atI z.cps.toList i = some c ∧ k (.str (sgn c))
  | _, _ => False
theorem atI_r {H : Hp} {vs : List V} {ds : List D} {i : Int} {d : D} (t : RAll G H vs ds) (h : atI ds i = some d) : ∃ v, atI vs i = some v ∧ R G H v d := by
  unfold atI at h ⊢
  rw [t.len]
  cases e : ixN ds.length i with
  | none => rw [e] at h; cases h
  | some j => rw [e] at h; exact t.get h
theorem ix_ok (hK : X.K = G.K := by rfl) : IxR X (rIx G.K) := ix_seqK hK
theorem ix_s : OpS G dIx (rIx G.K) := by
  intro M H x y d1 d2 k t a1 a2 h Q q
  unfold dIx at h
  split at h
  · obtain ⟨d, h1, h2⟩ := h
    obtain ⟨p, xs, rfl, e1, e2⟩ := a1.lst
    obtain ⟨v, e3, e4⟩ := atI_r e2 h1
    exact .inl ⟨p, xs, _, v, rfl, a2.int, SqL.of e1, e3, q d v H (Ex.refl _) e4 h2⟩
  · obtain ⟨d, h1, h2⟩ := h
    obtain ⟨p, xs, rfl, e1, e2⟩ := a1.sl
    obtain ⟨v, e3, e4⟩ := atI_r e2 h1
    exact .inl ⟨p, xs, _, v, rfl, a2.int, e1, e3, q d v H (Ex.refl _) e4 h2⟩
  · obtain ⟨d, h1, h2⟩ := h
    obtain ⟨p, xs, rfl, e1, e2, _⟩ := a1.tup
    obtain ⟨v, e3, e4⟩ := atI_r e2 h1
    exact .inr (.inl ⟨p, xs, _, v, rfl, a2.int, e1, e3, q d v H (Ex.refl _) e4 h2⟩)
  · obtain ⟨hz, c, h1, h2⟩ := h
    exact .inr (.inr ⟨_, _, c, a1.str, a2.int, hz, h1, q (.str _) _ H (Ex.refl _) (R.str _) h2⟩)
  · exact h.elim
end Pu
/-! ### the pure layer: built-ins -/
namespace Pu
open PySem PySem.Spec PyProof.Rows L2 Lk Evl
variable {G : Gx} {X : Cx}
/-- one argument, a flat answer -/
def d1 (f : D → (D → Prop) → Prop) : OpN := fun ds k => match ds with
  | [x] => f x k
  | _ => False
def d2 (f : D → D → (D → Prop) → Prop) : OpN := fun ds k => match ds with
  | [x, y] => f x y k
  | _ => False
theorem d1_s {f : D → (D → Prop) → Prop} {r : List V → Hp → VK → Prop} (h : ∀ M H x d k, Trk M H → Arg G M H x d → f d k → ∀ Q : VK, (∀ d v H', Ex H H' → R G (Fz M H') v d → k d → Q v H') → r [x] H Q) : CallS G (d1 f) r := by
  intro M H xs ds k t a hk Q q
  unfold d1 at hk
  split at hk
  · obtain ⟨v, rfl, a1⟩ := a.one
    exact h M H v _ k t a1 hk Q q
  · exact hk.elim
theorem d2_s {f : D → D → (D → Prop) → Prop} {r : List V → Hp → VK → Prop} (h : ∀ M H x y d e k, Trk M H → Arg G M H x d → Arg G M H y e → f d e k → ∀ Q : VK, (∀ d v H', Ex H H' → R G (Fz M H') v d → k d → Q v H') → r [x, y] H Q) : CallS G (d2 f) r := by
  intro M H xs ds k t a hk Q q
  unfold d2 at hk
  split at hk
  · obtain ⟨v, u, rfl, a1, a2⟩ := a.two
    exact h M H v u _ _ k t a1 a2 hk Q q
  · exact hk.elim
/-! ### len -/
def dLen (x : D) (k : D → Prop) : Prop := match x with
  | .str z => z.length ≤ sizeLine ∧ k (.int z.length)
  | .lst ds => k (.int ds.length)
  | .sl ds => k (.int ds.length)
  | .tup ds => k (.int ds.length)
  | _ => False
theorem len_s : CallS G (d1 dLen) (rLenA G.K) := d1_s fun M H x d k t a h Q q => by
  unfold dLen at h
  split at h
  · exact .inr ⟨_, by rw [a.str], h.1, q (.int _) _ H (Ex.refl _) (R.int _) h.2⟩
  · obtain ⟨p, xs, rfl, e1, e2⟩ := a.lst
    exact .inl ⟨p, xs, rfl, .inl (SqL.of e1), by rw [e2.len]; exact q (.int _) _ H (Ex.refl _) (R.int _) h⟩
  · obtain ⟨p, xs, rfl, e1, e2⟩ := a.sl
    exact .inl ⟨p, xs, rfl, .inl e1, by rw [e2.len]; exact q (.int _) _ H (Ex.refl _) (R.int _) h⟩
  · obtain ⟨p, xs, rfl, e1, e2, _⟩ := a.tup
    exact .inl ⟨p, xs, rfl, .inr e1, by rw [e2.len]; exact q (.int _) _ H (Ex.refl _) (R.int _) h⟩
  · exact h.elim
/-! ### all, any, sum, abs, max, min, int, str, bool -/
def D.asB : D → Option Bool
  | .bl b => some b
  | _ => none
def D.asI : D → Option Int
  | .int b => some b
  | _ => none
def D.asS : D → Option Str
  | .str b => some b
  | _ => none
def allM {α : Type} (f : D → Option α) : List D → Option (List α)
  | [] => some []
  | d :: ds => match f d, allM f ds with
    | some x, some xs => some (x :: xs)
    | _, _ => none
theorem allM_map {α : Type} {f : D → Option α} {g : α → D} (hf : ∀ d x, f d = some x → d = g x) : ∀ {ds : List D} {xs : List α}, allM f ds = some xs → ds = xs.map g
  | [], xs, h => by cases h; rfl
  | d :: ds, xs, h => by
    unfold allM at h
    split at h
    · rename_i x ys e1 e2
      cases h
      rw [hf _ _ e1, allM_map hf e2]; rfl
    · cases h
theorem asB_eq {d : D} {b : Bool} (h : d.asB = some b) : d = .bl b := by cases d <;> first | (cases h; rfl) | cases h
theorem asI_eq {d : D} {b : Int} (h : d.asI = some b) : d = .int b := by cases d <;> first | (cases h; rfl) | cases h
theorem asS_eq {d : D} {b : Str} (h : d.asS = some b) : d = .str b := by cases d <;> first | (cases h; rfl) | cases h
theorem allM_of {α : Type} {f : D → Option α} {g : α → D} (hf : ∀ x, f (g x) = some x) : ∀ xs : List α, allM f (xs.map g) = some xs
  | [] => rfl
  | x :: xs => by rw [List.map_cons, allM, hf, allM_of hf xs]
theorem allB (xs : List Bool) : allM D.asB (xs.map D.bl) = some xs := allM_of (f := D.asB) (g := D.bl) (fun _ => rfl) xs
theorem allI (xs : List Int) : allM D.asI (xs.map D.int) = some xs := allM_of (f := D.asI) (g := D.int) (fun _ => rfl) xs
theorem allS (xs : List Str) : allM D.asS (xs.map D.str) = some xs := allM_of (f := D.asS) (g := D.str) (fun _ => rfl) xs
def optK {α : Type} (o : Option α) (k : α → Prop) : Prop := match o with
  | some x => k x
  | none => False
theorem optK_of {α : Type} {o : Option α} {k : α → Prop} (h : optK o k) : ∃ x, o = some x ∧ k x := by
  cases o with
  | none => exact h.elim
  | some x => exact ⟨x, rfl, h⟩
structure dAll (x : D) (k : D → Prop) : Prop where
  ok : match x with
    | .lst ds => optK (allM D.asB ds) fun bs => k (.bl (bs.all id))
    | _ => False
structure dAny (x : D) (k : D → Prop) : Prop where
  ok : match x with
    | .lst ds => optK (allM D.asB ds) fun bs => k (.bl (bs.any id))
    | _ => False
theorem all_s : CallS G (d1 dAll) (rAll G.K) := d1_s fun M H x d k t a h Q q => by
  obtain ⟨h⟩ := h
  split at h
  · obtain ⟨bs, e, h'⟩ := optK_of h
    have e2 := allM_map (g := D.bl) (fun _ _ => asB_eq) e
    subst e2
    obtain ⟨p, xs, rfl, e1, e2⟩ := a.lst
    rw [e2.bls_inv] at e1
    exact ⟨p, bs, rfl, SqL.of e1, q (.bl _) _ H (Ex.refl _) (R.bl _) h'⟩
  · exact h.elim
theorem any_s : CallS G (d1 dAny) (rAny G.K) := d1_s fun M H x d k t a h Q q => by
  obtain ⟨h⟩ := h
  split at h
  · obtain ⟨bs, e, h'⟩ := optK_of h
    have e2 := allM_map (g := D.bl) (fun _ _ => asB_eq) e
    subst e2
    obtain ⟨p, xs, rfl, e1, e2⟩ := a.lst
    rw [e2.bls_inv] at e1
    exact ⟨p, bs, rfl, SqL.of e1, q (.bl _) _ H (Ex.refl _) (R.bl _) h'⟩
  · exact h.elim
structure dSum (x : D) (k : D → Prop) : Prop where
  ok : match x with
    | .lst ds => optK (allM D.asI ds) fun bs => k (.int bs.sum)
    | _ => False
theorem sum_s : CallS G (d1 dSum) (rSum G.K) := d1_s fun M H x d k t a h Q q => by
  obtain ⟨h⟩ := h
  split at h
  · obtain ⟨bs, e, h'⟩ := optK_of h
    have e2 := allM_map (g := D.int) (fun _ _ => asI_eq) e
    subst e2
    obtain ⟨p, xs, rfl, e1, e2⟩ := a.lst
    rw [e2.ints_inv] at e1
    exact ⟨p, bs, rfl, SqL.of e1, q (.int _) _ H (Ex.refl _) (R.int _) h'⟩
  · exact h.elim
theorem sum_ok (hc : X.calm = true) (hK : X.K = G.K := by rfl) : CallR X (.builtin "sum") (rSum G.K) := hK ▸ cr_sum hc
theorem all_ok (hc : X.calm = true) (hK : X.K = G.K := by rfl) : CallR X (.builtin "all") (rAll G.K) := hK ▸ cr_all hc
theorem any_ok (hc : X.calm = true) (hK : X.K = G.K := by rfl) : CallR X (.builtin "any") (rAny G.K) := hK ▸ cr_any hc
def dAbs (x : D) (k : D → Prop) : Prop := match x with
  | .int i => k (.int (if i < 0 then -i else i))
  | _ => False
theorem abs_s : CallS G (d1 dAbs) (fun xs H Q => ∃ i, xs = [.int i] ∧ Q (.int (if i < 0 then -i else i)) H) := d1_s fun M H x d k t a h Q q => by
  unfold dAbs at h
  split at h
  · exact ⟨_, by rw [a.int], q (.int _) _ H (Ex.refl _) (R.int _) h⟩
  · exact h.elim
def dMax2 (x y : D) (k : D → Prop) : Prop := match x, y with
  | .int i, .int j => k (.int (if j > i then j else i))
  | _, _ => False
def dMin2 (x y : D) (k : D → Prop) : Prop := match x, y with
  | .int i, .int j => k (.int (if j < i then j else i))
  | _, _ => False
theorem max2_s : CallS G (d2 dMax2) (fun xs H Q => ∃ i j, xs = [.int i, .int j] ∧ Q (.int (if j > i then j else i)) H) := d2_s fun M H x y d e k t a b h Q q => by
  unfold dMax2 at h
  split at h
  · exact ⟨_, _, by rw [a.int, b.int], q (.int _) _ H (Ex.refl _) (R.int _) h⟩
  · exact h.elim
theorem min2_s : CallS G (d2 dMin2) (fun xs H Q => ∃ i j, xs = [.int i, .int j] ∧ Q (.int (if j < i then j else i)) H) := d2_s fun M H x y d e k t a b h Q q => by
  unfold dMin2 at h
  split at h
  · exact ⟨_, _, by rw [a.int, b.int], q (.int _) _ H (Ex.refl _) (R.int _) h⟩
  · exact h.elim
/-- the greatest, the least of a list of ints: by their places -/
structure dMaxL (x : D) (k : D → Prop) : Prop where
  ok : match x with
    | .lst ds => optK (allM D.asI ds) fun ns => 0 < ns.length ∧ ∀ m, m ∈ ns → (∀ n ∈ ns, n ≤ m) → k (.int m)
    | _ => False
structure dMinL (x : D) (k : D → Prop) : Prop where
  ok : match x with
    | .lst ds => optK (allM D.asI ds) fun ns => 0 < ns.length ∧ ∀ m, m ∈ ns → (∀ n ∈ ns, m ≤ n) → k (.int m)
    | _ => False
theorem maxL_s : CallS G (d1 dMaxL) (rMax G.K) := d1_s fun M H x d k t a h Q q => by
  obtain ⟨h⟩ := h
  split at h
  · obtain ⟨bs, e, h1, h2⟩ := optK_of h
    have e2 := allM_map (g := D.int) (fun _ _ => asI_eq) e
    subst e2
    obtain ⟨p, xs, rfl, e1, e2⟩ := a.lst
    rw [e2.ints_inv] at e1
    exact ⟨p, bs, rfl, SqL.of e1, h1, fun m hm hle => q (.int _) _ H (Ex.refl _) (R.int _) (h2 m hm hle)⟩
  · exact h.elim
theorem minL_s : CallS G (d1 dMinL) (rMin G.K) := d1_s fun M H x d k t a h Q q => by
  obtain ⟨h⟩ := h
  split at h
  · obtain ⟨bs, e, h1, h2⟩ := optK_of h
    have e2 := allM_map (g := D.int) (fun _ _ => asI_eq) e
    subst e2
    obtain ⟨p, xs, rfl, e1, e2⟩ := a.lst
    rw [e2.ints_inv] at e1
    exact ⟨p, bs, rfl, SqL.of e1, h1, fun m hm hle => q (.int _) _ H (Ex.refl _) (R.int _) (h2 m hm hle)⟩
  · exact h.elim
theorem maxL_ok (hc : X.calm = true) (hK : X.K = G.K := by rfl) : CallR X (.builtin "max") (rMax G.K) := hK ▸ cr_max hc
theorem minL_ok (hc : X.calm = true) (hK : X.K = G.K := by rfl) : CallR X (.builtin "min") (rMin G.K) := hK ▸ cr_min hc
/-- int(n), int(flag), int(a text of figures) -/
def dToInt (x : D) (k : D → Prop) : Prop := match x with
  | .int i => k (.int i)
  | .bl b => k (.int (if b then 1 else 0))
  | .str z => ∃ n, PySem.intText? z = some n ∧ z.length ≤ 640 ∧ k (.int n)
  | _ => False
abbrev rToInt : List V → Hp → VK → Prop := fun xs H Q => ((∃ i, xs = [.int i] ∧ Q (.int i) H) ∨ ∃ k, xs = [.bl k] ∧ Q (.int (if k then 1 else 0)) H) ∨ ∃ a n, xs = [.str a] ∧ PySem.intText? a = some n ∧ a.length ≤ 640 ∧ Q (.int n) H
theorem toInt_ok : CallR X (.type "int") rToInt := CallR.or call_int1 call_int_str
theorem toInt_s : CallS G (d1 dToInt) rToInt := d1_s fun M H x d k t a h Q q => by
  unfold dToInt at h
  split at h
  · exact .inl (.inl ⟨_, by rw [a.int], q (.int _) _ H (Ex.refl _) (R.int _) h⟩)
  · exact .inl (.inr ⟨_, by rw [a.bl], q (.int _) _ H (Ex.refl _) (R.int _) h⟩)
  · obtain ⟨n, h1, h2, h3⟩ := h
    exact .inr ⟨_, n, by rw [a.str], h1, h2, q (.int _) _ H (Ex.refl _) (R.int _) h3⟩
  · exact h.elim
def dToStr (x : D) (k : D → Prop) : Prop := match x with
  | .int i => i.natAbs.log2 < 1920 ∧ k (.str (toString i))
  | _ => False
theorem toStr_s : CallS G (d1 dToStr) (fun xs H Q => ∃ i, xs = [.int i] ∧ i.natAbs.log2 < 1920 ∧ Q (.str (toString i)) H) := d1_s fun M H x d k t a h Q q => by
  unfold dToStr at h
  split at h
  · exact ⟨_, by rw [a.int], h.1, q (.str _) _ H (Ex.refl _) (R.str _) h.2⟩
  · exact h.elim
/-! ### list, tuple -/
def dToLst (x : D) (k : D → Prop) : Prop := match x with
  | .lst ds => k (.lst ds)
  | .sl ds => k (.lst ds)
  | .tup ds => k (.lst ds)
  | .str z => z.length ≤ sizeLine ∧ k (.lst (z.cps.toList.map fun c => .str (sgn c)))
  | _ => False
abbrev rToLst (K : PySem.W.Frag) : List V → Hp → VK → Prop := fun xs H Q => rListS K xs H Q ∨ ∃ z : Str, xs = [.str z] ∧ z.length ≤ sizeLine ∧ ∀ l, H l = none → Q (.ref l) (upd H l (.lst (z.cps.toList.map fun c => .str (sgn c))))
theorem toLst_ok (hc : X.calm = true) (hK : X.K = G.K := by rfl) : CallR X (.type "list") (rToLst G.K) := CallR.or (list_ofK hK) (Lk.call_list_str hc)
theorem RAll.sgns {H : Hp} (cs : List Nat) : RAll G H (cs.map fun c => V.str (sgn c)) (cs.map fun c => D.str (sgn c)) := by
  induction cs with
  | nil => exact .nil
  | cons c cs ih => exact .cons (.str _) ih
theorem toLst_s : CallS G (d1 dToLst) (rToLst G.K) := d1_s fun M H x d k t a h Q q => by
  unfold dToLst at h
  split at h
  · obtain ⟨p, xs, rfl, e1, e2⟩ := a.lst
    exact .inl ⟨p, xs, rfl, .inl (SqL.of e1), fun l hl => q _ _ _ (Ex.new hl) (r_new_lst t hl e2) h⟩
  · obtain ⟨p, xs, rfl, e1, e2⟩ := a.sl
    exact .inl ⟨p, xs, rfl, .inl e1, fun l hl => q _ _ _ (Ex.new hl) (r_new_lst t hl e2) h⟩
  · obtain ⟨p, xs, rfl, e1, e2, _⟩ := a.tup
    exact .inl ⟨p, xs, rfl, .inr e1, fun l hl => q _ _ _ (Ex.new hl) (r_new_lst t hl e2) h⟩
  · exact .inr ⟨_, by rw [a.str], h.1, fun l hl => q _ _ _ (Ex.new hl) (r_new_lst t hl (RAll.sgns _)) h.2⟩
  · exact h.elim
def dToTup (x : D) (k : D → Prop) : Prop := match x with
  | .lst ds => k (.tup ds)
  | .tup ds => k (.tup ds)
  | _ => False
theorem toTup_s : CallS G (d1 dToTup) (rTupOf G.K) := d1_s fun M H x d k t a h Q q => by
  unfold dToTup at h
  split at h
  · obtain ⟨p, xs, rfl, e1, e2⟩ := a.lst
    exact ⟨p, xs, rfl, .inl ⟨SqL.of e1, fun l hl => q _ _ _ (Ex.new hl) (r_new_tup t hl e2) h⟩⟩
  · obtain ⟨p, xs, rfl, e1, e2, e3⟩ := a.tup
    exact ⟨p, xs, rfl, .inr ⟨e1, q _ _ H (Ex.refl _) e3 h⟩⟩
  · exact h.elim
/-! ### repr -/
structure dRepr (x : D) (k : D → Prop) : Prop where
  ok : optK x.py fun p => p.showable = true ∧ p.hasDict = false ∧ p.depth ≤ 60 ∧ p.shown.length ≤ sizeLine ∧ k (.str p.shown)
theorem repr_s : CallS G (d1 dRepr) (rReprA G.K) := d1_s fun M H x d k t a h Q q => by
  obtain ⟨p, e, h1, h2, h3, h4, h5⟩ := optK_of h.ok
  exact ⟨x, p, rfl, a.full.dp _ e, h1, h2, h3, h4, q (.str _) _ H (Ex.refl _) (R.str _) h5⟩
/-! ### sorted: of texts, of ints -/
structure dSorted (x : D) (k : D → Prop) : Prop where
  ok : match x with
    | .lst ds => optK (allM D.asS ds) fun xs => xs.length < 64 ∧ ∀ ys : List Str, ys.Perm xs → sortedS ys = true → k (.lst (ys.map D.str))
    | _ => False
theorem sorted_s : CallS G (d1 dSorted) (rSortedS G.K) := d1_s fun M H x d k t a h Q q => by
  obtain ⟨h⟩ := h
  split at h
  · obtain ⟨bs, e, h1, h2⟩ := optK_of h
    have e2 := allM_map (g := D.str) (fun _ _ => asS_eq) e
    subst e2
    obtain ⟨p, xs, rfl, e1, e2⟩ := a.lst
    rw [e2.strs_inv] at e1
    exact ⟨p, bs, rfl, SqL.of e1, h1, fun ys l hp hs hl => q _ _ _ (Ex.new hl) (r_new_lst t hl (RAll.of_strs ys)) (h2 ys hp hs)⟩
  · exact h.elim
/-! ### isinstance against a built-in class -/
inductive BT where
  | str | int | bool | tup | lst | dct
def BT.name : BT → String
  | .str => "str" | .int => "int" | .bool => "bool" | .tup => "tuple" | .lst => "list" | .dct => "dict"
def BT.has : BT → D → Option Bool
  | .str, .str _ | .int, .int _ | .int, .bl _ | .bool, .bl _ | .tup, .tup _ | .lst, .lst _ | .lst, .sl _ | .dct, .dct _ _ => some true
  | _, .obj _ _ _ => none
  | _, .ty _ => none
  | _, .cls _ => none
  | _, .exc _ _ _ _ _ => none
  | _, _ => some false
/-- the name of a value's built-in class -/
def D.tyn : D → Option String
  | .non => some "NoneType" | .bl _ => some "bool" | .int _ => some "int" | .str _ => some "str" | .tup _ => some "tuple" | .lst _ => some "list" | .sl _ => some "list" | .dct _ _ => some "dict"
  | _ => none
theorem tyn_of {M : List Addr} {H : Hp} {v : V} {d : D} {n : String} (a : Arg G M H v d) (h : d.tyn = some n) : TyX G.K H v (.type n) := by
  have sq : ∀ {a xs}, SqL G.K H a xs → TyX G.K H (.ref a) (.type "list") := by
    rintro a xs ((h | ⟨o, h⟩) | ⟨o, its, m, h1, h2, _⟩)
    · exact .base (.lst h)
    · exact .base (.frz h)
    · exact .kList h1 h2
  have st : ∀ {a xs}, SqT G.K H a xs → TyX G.K H (.ref a) (.type "tuple") := by
    rintro a xs ((h | ⟨o, h⟩) | ⟨o, its, m, h1, h2, _⟩)
    · exact .base (.tup h)
    · exact .fTuple h
    · exact .kTuple h1 h2
  have f := a.full
  cases f <;> first | (cases h; done) | skip
  · cases h; exact .base .non
  · cases h; exact .base (.bl _)
  · cases h; exact .base (.int _)
  · cases h; exact .base (.str _)
  · cases h; rename_i h1 h2; exact st h1
  · cases h; rename_i h1 h2; exact .base (.lst h1)
  · cases h; rename_i h1 h2; exact sq h1
  · cases h
    rename_i h1 h2 h3
    obtain ⟨kvs, h1 | ⟨o, h1⟩, _⟩ := h1
    · exact .base (.dK h1)
    · exact .fDict h1
theorem has_kit (K : PySem.W.Frag) {b : BT} {d : D} {r : Bool} (h : b.has d = some r) : ∃ n, d.tyn = some n ∧ PySem.W.kitOne K (.type n) (.type b.name) = some r := by
  cases b <;> cases d <;> first | (cases h; done) | (cases h; exact ⟨_, rfl, kit_ty (by decide +kernel)⟩)
def dIsi (b : BT) (x y : D) (k : D → Prop) : Prop := y = .ty b.name ∧ optK (b.has x) fun r => k (.bl r)
theorem isi_s (b : BT) : CallS G (d2 (dIsi b)) (rIsi G.K) := d2_s fun M H x y d e k t a1 a2 h Q q => by
  obtain ⟨rfl, h⟩ := h
  obtain ⟨r, e1, h⟩ := optK_of h
  obtain ⟨n, e2, e3⟩ := has_kit G.K e1
  have ey : y = .ty b.name := by have := a2.full; cases this; rfl
  subst ey
  exact ⟨x, _, _, _, r, rfl, .ty _, tyn_of a1 e2, e3, q (.bl _) _ H (Ex.refl _) (R.bl _) h⟩
/-! ### methods of texts -/
def m1 (f : D → D → (D → Prop) → Prop) : D → OpN := fun x ds k => match ds with
  | [y] => f x y k
  | _ => False
theorem m1_s {T : String} {f : D → D → (D → Prop) → Prop} {r : V → List V → Hp → VK → Prop} (h : ∀ M H x y d e k, Trk M H → Arg G M H x d → Arg G M H y e → f d e k → ∀ Q : VK, (∀ d v H', Ex H H' → R G (Fz M H') v d → k d → Q v H') → r x [y] H Q) : MethS G T (m1 f) r := by
  intro M H x d xs ds k t a as hk Q q
  unfold m1 at hk
  split at hk
  · obtain ⟨v, rfl, a1⟩ := as.one
    exact h M H x v _ _ k t a a1 hk Q q
  · exact hk.elim
structure dJoin (x y : D) (k : D → Prop) : Prop where
  ok : match x, y with
    | .str a, .lst ds => optK (allM D.asS ds) fun ys => (ys.map (·.length)).sum + ys.length * a.length ≤ 16777216 ∧ k (.str (Txt.join a ys))
    | .str a, .tup ds => optK (allM D.asS ds) fun ys => (ys.map (·.length)).sum + ys.length * a.length ≤ 16777216 ∧ k (.str (Txt.join a ys))
    | _, _ => False
theorem join_s : MethS G "str" (m1 dJoin) (rJoin G.K) := m1_s fun M H x y d e k t a1 a2 h Q q => by
  obtain ⟨h⟩ := h
  split at h
  · obtain ⟨ys, e, h1, h2⟩ := optK_of h
    have e2 := allM_map (g := D.str) (fun _ _ => asS_eq) e
    subst e2
    obtain ⟨p, xs, rfl, e1, e2⟩ := a2.lst
    rw [e2.strs_inv] at e1
    exact ⟨_, p, ys, a1.str, rfl, .inl (SqL.of e1), h1, q (.str _) _ H (Ex.refl _) (R.str _) h2⟩
  · obtain ⟨ys, e, h1, h2⟩ := optK_of h
    have e2 := allM_map (g := D.str) (fun _ _ => asS_eq) e
    subst e2
    obtain ⟨p, xs, rfl, e1, e2, _⟩ := a2.tup
    rw [e2.strs_inv] at e1
    exact ⟨_, p, ys, a1.str, rfl, .inr e1, h1, q (.str _) _ H (Ex.refl _) (R.str _) h2⟩
  · exact h.elim
def dSplit (x y : D) (k : D → Prop) : Prop := match x, y with
  | .str a, .str b => (b.length == 0) = false ∧ a.length + 2 ≤ sizeLine ∧ k (.lst ((Txt.split a b).map D.str))
  | _, _ => False
abbrev rSplit : V → List V → Hp → VK → Prop := fun x xs H Q => ∃ a b, x = .str a ∧ xs = [.str b] ∧ (b.length == 0) = false ∧ a.length + 2 ≤ sizeLine ∧ rNewStrs (Txt.split a b) H Q
theorem split_s : MethS G "str" (m1 dSplit) rSplit := m1_s fun M H x y d e k t a1 a2 h Q q => by
  unfold dSplit at h
  split at h
  · exact ⟨_, _, a1.str, by rw [a2.str], h.1, h.2.1, fun l hl => q _ _ _ (Ex.new hl) (r_new_lst t hl (RAll.of_strs _)) h.2.2⟩
  · exact h.elim
def dStarts (x y : D) (k : D → Prop) : Prop := match x, y with
  | .str a, .str b => k (.bl (Txt.startswith a b))
  | _, _ => False
theorem starts_s : MethS G "str" (m1 dStarts) (fun x xs H Q => ∃ a b, x = .str a ∧ xs = [.str b] ∧ Q (.bl (Txt.startswith a b)) H) := m1_s fun M H x y d e k t a1 a2 h Q q => by
  unfold dStarts at h
  split at h
  · exact ⟨_, _, a1.str, by rw [a2.str], q (.bl _) _ H (Ex.refl _) (R.bl _) h⟩
  · exact h.elim
/-! ### xs.index(y) of data -/
structure dIndex (x y : D) (k : D → Prop) : Prop where
  ok : match x with
    | .lst ds => match D.pys ds, y.py with
      | some ps, some p => SeqAt.shaped (.list ps) = true ∧ SeqAt.shaped p = true ∧ ∃ (j : Nat) (z : PyData), ps[j]? = some z ∧ PyData.eqv z p = true ∧ (∀ (m : Nat) (z' : PyData), m < j → ps[m]? = some z' → PyData.eqv z' p = false) ∧ k (.int (j : Nat))
      | _, _ => False
    | _ => False
theorem index_s : MethS G "list" (m1 dIndex) (rIndexD G.K) := m1_s fun M H x y d e k t a1 a2 h Q q => by
  obtain ⟨h⟩ := h
  split at h
  · split at h
    · rename_i ps p e1 e2
      obtain ⟨h1, h2, j, z, h3, h4, h5, h6⟩ := h
      obtain ⟨b, xs, rfl, e3, e4⟩ := a1.lst
      exact ⟨b, y, p, ps, j, z, rfl, rfl, a1.full.dp _ (by rw [D.py, e1]; rfl), a2.full.dp _ e2, h1, h2, h3, h4, h5, q (.int _) _ H (Ex.refl _) (R.int _) h6⟩
    · exact h.elim
  · exact h.elim
end Pu
/-! ### the pure layer: statements -/
namespace Pu
open PySem PySem.Spec PyProof.Rows L2 Lk Evl
/-! ### one reading for all -/
def tOf (G : Gx) (W : WX) (w : WE) : TE := fun σ H Q => ∃ M ρ q eq, Rep G M ρ σ H ∧ w ρ q eq ∧ (∀ s ρ' v H', Go G M σ ρ H ρ' H' → RS G M ρ' σ H' v s → q s ρ' → Q v H') ∧ Thr G M W σ ρ H eq
def tOfT (G : Gx) (W : WX) (w : WT) : TT := fun σ H Q => ∃ M ρ q eq, Rep G M ρ σ H ∧ w ρ q eq ∧ (∀ b ρ' H', Go G M σ ρ H ρ' H' → q b ρ' → Q b H') ∧ Thr G M W σ ρ H eq
theorem PX.can {G : Gx} {X : Cx} {W : WX} {e : Expr} {w : WE} (h : PX G X W e w) : PE X e (tOf G W w) := by
  obtain ⟨t, p, s⟩ := h
  exact ⟨fun pins st σ H Q I ⟨M, ρ, q, eq, a, b, c, d⟩ => p.run pins st σ H Q I (s M ρ σ H q eq Q a b c d)⟩
theorem PXT.can {G : Gx} {X : Cx} {W : WX} {e : Expr} {w : WT} (h : PXT G X W e w) : PT X e (tOfT G W w) := by
  obtain ⟨t, p, s⟩ := h
  exact ⟨fun pins st σ H Q I ⟨M, ρ, q, eq, a, b, c, d⟩ => p.run pins st σ H Q I (s M ρ σ H q eq Q a b c d)⟩
theorem se_of (G : Gx) (W : WX) (w : WE) : SE G W (tOf G W w) w := fun M ρ σ H q eq Q a b c d => ⟨M, ρ, q, eq, a, b, c, d⟩
theorem st_of (G : Gx) (W : WX) (w : WT) : STt G W (tOfT G W w) w := fun M ρ σ H q eq Q a b c d => ⟨M, ρ, q, eq, a, b, c, d⟩

/-- what stood at a call's beginning (or a loop's) -/
structure Cxt where
  M0 : List Addr
  V0 : Addr → Prop
  H0 : Hp
  σ0 : L2.St
  pins : List Nat
  frs : List (List Addr × Hp)
  hV : ∀ a, V0 a → ∃ i ∈ pins, σ0[i]? = some (some (.ref a))
  T : List (Addr × Str)
  hM : ∀ a ∈ M0, ∃ o, H0 a = some o ∧ (NoT o ∨ ∃ p ∈ T, p.1 = a)
structure RepS (G : Gx) (c : Cxt) (M : List Addr) (ρ : Env) (σ : L2.St) (H : Hp) : Prop where
  rep : Rep G M ρ σ H
  sub : ∀ a ∈ c.M0, a ∈ M
  kp : Keep c.V0 c.H0 H
  own : ∀ a, Seen ρ σ a → c.V0 a ∨ New c.H0 a
  pin : ∀ i ∈ c.pins, σ[i]? = c.σ0[i]? ∧ ∃ d, ρ[i]? = some (.ow d)
  old : ∀ a, New H a → New c.H0 a
  new : ∀ a ∈ M, a ∈ c.M0 ∨ New c.H0 a
  tT : c.T = G.tabs
  fr : ∀ f ∈ c.frs, Ex (Fz f.1 f.2) (Fz M H)
structure PEnds where
  pins : List Nat
  nx : Env → Prop
  rt : Src → Env → Prop
  /-- a new container is handed back -/
  rn : D → Env → Prop := fun _ _ => False
  bk : Env → Prop := fun _ => False
  ct : Env → Prop := fun _ => False
  ex : EQ
abbrev WS := PEnds → Env → Prop
structure EndsOk (G : Gx) (W : WX) (c : Cxt) (Z : Ends) (P : PEnds) : Prop where
  pins : P.pins = c.pins
  nx : ∀ M ρ σ H, RepS G c M ρ σ H → P.nx ρ → Z.nx σ H
  rt : ∀ s M ρ σ v H, RepS G c M ρ σ H → RS G M ρ σ H v s → P.rt s ρ → Z.rt v H
  rn : ∀ d M ρ σ a H, RepS G c M ρ σ H → a ∉ M → New c.H0 a → Rep G (a :: M) ρ σ H → Own G (a :: M) H a d → P.rn d ρ → Z.rt (.ref a) H
  bk : ∀ M ρ σ H, RepS G c M ρ σ H → P.bk ρ → Z.bk σ H
  ct : ∀ M ρ σ H, RepS G c M ρ σ H → P.ct ρ → Z.ct σ H
  ex : ∀ C ns vs M ρ σ dx H, RepS G c M ρ σ H → XdAt G M H dx ns vs → P.ex C ns vs ρ → W (.ref (G.cl C)) dx σ H
def SS (G : Gx) (W : WX) (t : TS) (w : WS) : Prop := ∀ c M ρ σ H Z P, RepS G c M ρ σ H → w P ρ → EndsOk G W c Z P → t Z σ H
structure PY (G : Gx) (X : Cx) (W : WX) (st : Stmt) (w : WS) : Prop where
  ex : ∃ t, PS X st t ∧ SS G W t w
structure PYs (G : Gx) (X : Cx) (W : WX) (st : List Stmt) (w : WS) : Prop where
  ex : ∃ t, PSs X st t ∧ SS G W t w
def tOfS (G : Gx) (W : WX) (w : WS) : TS := fun Z σ H => ∃ c M ρ P, RepS G c M ρ σ H ∧ w P ρ ∧ EndsOk G W c Z P
theorem PYs.can {G : Gx} {X : Cx} {W : WX} {e : List Stmt} {w : WS} (h : PYs G X W e w) : PSs X e (tOfS G W w) := by
  obtain ⟨t, p, s⟩ := h
  exact ⟨fun pins st σ H Z I ⟨c, M, ρ, P, a, b, d⟩ => p.run pins st σ H Z I (s c M ρ σ H Z P a b d)⟩
theorem ss_of (G : Gx) (W : WX) (w : WS) : SS G W (tOfS G W w) w := fun c M ρ σ H Z P a b d => ⟨c, M, ρ, P, a, b, d⟩
section
variable {G : Gx} {X : Cx} {W : WX} {c : Cxt} {M : List Addr} {ρ ρ1 : Env} {σ : L2.St} {H H1 : Hp} {Z : Ends} {P : PEnds}
theorem RepS.go (r : RepS G c M ρ σ H) (g : Go G M σ ρ H ρ1 H1) : RepS G c M ρ1 σ H1 := by
  refine ⟨g.rep, r.sub, fun b o h n t => ?_, fun a h => r.own a (g.kin.seen.mp h), fun i hi => ⟨(r.pin i hi).1, (g.kin.ow i).mpr (r.pin i hi).2⟩, fun a h => ?_, r.new, r.tT, fun f hf => (r.fr f hf).trans (g.fz r.rep)⟩
  · refine g.kp b o (r.kp b o h n t) (fun z => ?_) t
    rcases r.own b z with q | q
    · exact n q
    · exact q o h t
  · refine r.old a fun o e t => ?_
    by_cases sn : Seen ρ σ a
    · obtain ⟨i, d, h1, h2⟩ := g.kin.seen.mpr sn
      obtain ⟨b, e1, m, w⟩ := g.rep.ow i d h1
      rw [h2] at e1
      cases e1
      obtain ⟨o', e', n', _⟩ := w.pl
      exact h o' e' n'
    · exact h o (g.kp a o e sn t) t
theorem EndsOk.thr (k : EndsOk G W c Z P) (r : RepS G c M ρ σ H) : Thr G M W σ ρ H P.ex := fun C ns vs ρ' dx H' g x e => k.ex C ns vs M ρ' σ dx H' (r.go g) x e
/-- the value alone -/
def Src.val' (s : Src) (k : D → Prop) : Prop := match s with
  | .val d => k d
  | _ => False
theorem RS.val' {v : V} {s : Src} {k : D → Prop} (h : RS G M ρ σ H v s) (w : s.val' k) : ∃ d, R G (Fz M H) v d ∧ k d := by
  cases s with
  | val d => exact ⟨d, h, w⟩
  | slot i => exact w.elim
variable {st : Stmt} {rest : List Stmt} {e : Expr} {pos : Pos} {wa wb : WS} {we : WE} {wt : WT}
def wNext : WS := fun P ρ => P.nx ρ
def wSeq (wa wb : WS) : WS := fun P ρ => wa { P with nx := fun ρ' => wb P ρ' } ρ
theorem EndsOk.with {D' : L2.St → Hp → Prop} {P' : Env → Prop} (k : EndsOk G W c Z P) (h : ∀ M ρ σ H, RepS G c M ρ σ H → P' ρ → D' σ H) : EndsOk G W c { Z with nx := D' } { P with nx := P' } := ⟨k.pins, h, k.rt, k.rn, k.bk, k.ct, k.ex⟩
theorem py_nil : PYs G X W [] wNext := ⟨_, pss_nil, fun c M ρ σ H Z P r w k => k.nx M ρ σ H r w⟩
theorem py_cons (h1 : PY G X W st wa) (h2 : PYs G X W rest wb) : PYs G X W (st :: rest) (wSeq wa wb) := by
  obtain ⟨t1, p1, s1⟩ := h1
  obtain ⟨t2, p2, s2⟩ := h2
  exact ⟨_, pss_cons p1 p2, fun c M ρ σ H Z P r w k => s1 c M ρ σ H _ _ r w (k.with fun M1 ρ1 σ1 H1 r1 w1 => s2 c M1 ρ1 σ1 H1 Z P r1 w1 k)⟩
theorem py_one (h1 : PY G X W st wa) : PYs G X W [st] wa := by
  obtain ⟨t1, p1, s1⟩ := h1
  exact ⟨_, pss_one p1, s1⟩
theorem py_pass : PY G X W (.Pass pos) wNext := ⟨_, ps_pass, fun c M ρ σ H Z P r w k => k.nx M ρ σ H r w⟩
theorem py_doc {x j pos'} : PY G X W (.Expr (.Constant (.str x) j pos) pos') wNext := ⟨_, ps_doc, fun c M ρ σ H Z P r w k => k.nx M ρ σ H r w⟩
def wBreak : WS := fun P ρ => P.bk ρ
def wCont : WS := fun P ρ => P.ct ρ
theorem py_break : PY G X W (.Break pos) wBreak := ⟨_, ps_break, fun c M ρ σ H Z P r w k => k.bk M ρ σ H r w⟩
theorem py_continue : PY G X W (.Continue pos) wCont := ⟨_, ps_continue, fun c M ρ σ H Z P r w k => k.ct M ρ σ H r w⟩
def wDrop (we : WE) : WS := fun P ρ => we ρ (fun _ ρ1 => P.nx ρ1) P.ex
theorem py_expr (h : PX G X W e we) (hs : swapsWith e none pos.line X.env = pure false := by rfl) : PY G X W (.Expr e pos) (wDrop we) := by
  obtain ⟨t, p, s⟩ := h
  exact ⟨_, ps_expr p hs, fun c M ρ σ H Z P r w k => s M ρ σ H _ _ _ r.rep w (fun _ ρ' _ H' g _ q => k.nx M ρ' σ H' (r.go g) q) (k.thr r)⟩
def wRet (we : WE) : WS := fun P ρ => we ρ (fun s ρ1 => P.rt s ρ1) P.ex
theorem py_ret (h : PX G X W e we) : PY G X W (.Return (some e) pos) (wRet we) := by
  obtain ⟨t, p, s⟩ := h
  exact ⟨_, ps_ret p, fun c M ρ σ H Z P r w k => s M ρ σ H _ _ _ r.rep w (fun s ρ' v H' g rs q => k.rt s M ρ' σ v H' (r.go g) rs q) (k.thr r)⟩
def wRetN : WS := fun P ρ => P.rt (.val .non) ρ
theorem py_retN : PY G X W (.Return none pos) wRetN := ⟨_, ps_retN, fun c M ρ σ H Z P r w k => k.rt (.val .non) M ρ σ _ H r R.non w⟩
def wIfS (wt : WT) (wa wb : WS) : WS := fun P ρ => wt ρ (fun b ρ1 => if b = true then wa P ρ1 else wb P ρ1) P.ex
theorem py_if {t : Expr} {a b : List Stmt} (ht : PXT G X W t wt) (ha : PYs G X W a wa) (hb : PYs G X W b wb) : PY G X W (.If t a b pos) (wIfS wt wa wb) := by
  obtain ⟨tt, pt, stt⟩ := ht
  obtain ⟨ta, pa, sa⟩ := ha
  obtain ⟨tb, pb, sb⟩ := hb
  refine ⟨_, ps_if pt pa pb, fun c M ρ σ H Z P r w k => stt M ρ σ H _ _ _ r.rep w (fun b ρ' H' g q => ?_) (k.thr r)⟩
  cases b with
  | true => rw [if_pos rfl] at q ⊢; exact sa c M ρ' σ H' Z P (r.go g) q k
  | false => rw [if_neg Bool.false_ne_true] at q ⊢; exact sb c M ρ' σ H' Z P (r.go g) q k
/-- the joining of ways behind an if -/
def wJoin (wa wb : WS) : WS := fun P ρ => ∃ I : Env → Prop, wa { P with nx := I } ρ ∧ ∀ ρ', I ρ' → wb P ρ'
theorem py_join (h1 : PY G X W st wa) (h2 : PYs G X W rest wb) : PYs G X W (st :: rest) (wJoin wa wb) := by
  obtain ⟨t1, p1, s1⟩ := h1
  obtain ⟨t2, p2, s2⟩ := h2
  exact ⟨_, pss_cons p1 p2, fun c M ρ σ H Z P r ⟨I, w1, w2⟩ k => s1 c M ρ σ H _ _ r w1 (k.with fun M1 ρ1 σ1 H1 r1 q => s2 c M1 ρ1 σ1 H1 Z P r1 (w2 ρ1 q) k)⟩
/-! ### slots set -/
theorem rep_set (r : Rep G M ρ σ H) {i : Nat} {v : V} {d : D} (h : R G (Fz M H) v d) : Rep G M (ρ.set i (.fz d)) (σ.set i (some v)) H := by
  refine ⟨by rw [List.length_set, List.length_set, r.len], fun j d' hj => ?_, fun j d' hj => ?_, fun j k a d1 d2 h1 h2 h3 h4 => ?_, r.trk, r.tab, r.tm⟩
  · rw [List.getElem?_set] at hj
    rw [List.getElem?_set]
    by_cases hij : i = j
    · rw [if_pos hij] at hj ⊢
      split at hj
      · rename_i hl
        cases hj
        rw [if_pos (by rw [← r.len]; exact hl)]
        exact ⟨v, rfl, h⟩
      · cases hj
    · rw [if_neg hij] at hj ⊢
      exact r.fz j d' hj
  · rw [List.getElem?_set] at hj
    rw [List.getElem?_set]
    by_cases hij : i = j
    · rw [if_pos hij] at hj
      split at hj <;> cases hj
    · rw [if_neg hij] at hj ⊢
      exact r.ow j d' hj
  · rw [List.getElem?_set] at h1 h2 h3 h4
    by_cases hij : i = j
    · rw [if_pos hij] at h1
      split at h1 <;> cases h1
    · by_cases hik : i = k
      · rw [if_pos hik] at h2
        split at h2 <;> cases h2
      · rw [if_neg hij] at h1 h3
        rw [if_neg hik] at h2 h4
        exact r.inj j k a d1 d2 h1 h2 h3 h4
theorem seen_set {i : Nat} {v : V} {d : D} {a : Addr} (h : Seen (ρ.set i (.fz d)) (σ.set i (some v)) a) : Seen ρ σ a := by
  obtain ⟨j, d', h1, h2⟩ := h
  rw [List.getElem?_set] at h1 h2
  by_cases hij : i = j
  · rw [if_pos hij] at h1
    split at h1 <;> cases h1
  · rw [if_neg hij] at h1 h2
    exact ⟨j, d', h1, h2⟩
/-- slots of the list alone have turned, to values -/
structure Diff (is : List Nat) (ρ : Env) (σ : L2.St) (ρ' : Env) (σ' : L2.St) : Prop where
  out : ∀ j, j ∉ is → ρ'[j]? = ρ[j]? ∧ σ'[j]? = σ[j]?
  no : ∀ j ∈ is, ∀ d, ρ'[j]? ≠ some (.ow d)
  len : σ'.length = σ.length
theorem Diff.seen {is : List Nat} {ρ' : Env} {σ' : L2.St} (d : Diff is ρ σ ρ' σ') {a : Addr} (h : Seen ρ' σ' a) : Seen ρ σ a := by
  obtain ⟨j, e, h1, h2⟩ := h
  by_cases hj : j ∈ is
  · exact absurd h1 (d.no j hj e)
  · obtain ⟨x, y⟩ := d.out j hj
    exact ⟨j, e, by rw [← x]; exact h1, by rw [← y]; exact h2⟩
theorem RepS.diff (r : RepS G c M ρ σ H) {is : List Nat} {ρ' : Env} {σ' : L2.St} {H' : Hp} (rp : Rep G M ρ' σ' H') (e : Ex H H') (d : Diff is ρ σ ρ' σ') (hp : ∀ i ∈ is, i ∉ c.pins) : RepS G c M ρ' σ' H' := by
  refine ⟨rp, r.sub, r.kp.trans (.of_ex e), fun a h => r.own a (d.seen h), fun i hi => ?_, fun a h => r.old a fun o q => h o (e a o q), r.new, r.tT, fun f hf => (r.fr f hf).trans (fz_step e)⟩
  · obtain ⟨x, y⟩ := d.out i fun z => hp i z hi
    rw [x, y]
    exact r.pin i hi
abbrev WG := D → Env → (Env → Prop) → Prop
abbrev WGs := List D → Env → (Env → Prop) → Prop
def SG (G : Gx) (is : List Nat) (t : TG) (w : WG) : Prop := ∀ M ρ σ H v d Q k, Rep G M ρ σ H → R G (Fz M H) v d → w d ρ k → (∀ ρ' σ' H', Rep G M ρ' σ' H' → Ex H H' → Diff is ρ σ ρ' σ' → k ρ' → Q σ' H') → t v σ H Q
def SGs (G : Gx) (is : List Nat) (t : TGs) (w : WGs) : Prop := ∀ M ρ σ H vs ds Q k, Rep G M ρ σ H → RAll G (Fz M H) vs ds → w ds ρ k → (∀ ρ' σ' H', Rep G M ρ' σ' H' → Ex H H' → Diff is ρ σ ρ' σ' → k ρ' → Q σ' H') → t vs σ H Q
structure PXG (G : Gx) (X : Cx) (is : List Nat) (e : Expr) (w : WG) : Prop where
  ex : ∃ t, PG X e t ∧ SG G is t w
structure PXGs (G : Gx) (X : Cx) (is : List Nat) (es : List Expr) (w : WGs) : Prop where
  ex : ∃ t, PGs X es t ∧ SGs G is t w
def tOfG (G : Gx) (is : List Nat) (w : WG) : TG := fun v σ H Q => ∃ M ρ d k, Rep G M ρ σ H ∧ R G (Fz M H) v d ∧ w d ρ k ∧ ∀ ρ' σ' H', Rep G M ρ' σ' H' → Ex H H' → Diff is ρ σ ρ' σ' → k ρ' → Q σ' H'
theorem PXG.can {is : List Nat} {w : WG} (h : PXG G X is e w) : PG X e (tOfG G is w) := by
  obtain ⟨t, p, s⟩ := h
  exact ⟨fun pins st σ H v u Q I r ⟨M, ρ, d, k, a, b, c, d'⟩ => p.run pins st σ H v u Q I r (s M ρ σ H v d Q k a b c d')⟩
theorem sg_of (G : Gx) (is : List Nat) (w : WG) : SG G is (tOfG G is w) w := fun M ρ σ H v d Q k a b c d' => ⟨M, ρ, d, k, a, b, c, d'⟩
def wgName (i : Nat) : WG := fun d ρ k => k (ρ.set i (.fz d))
theorem diff_set {i : Nat} {v : V} {d : D} : Diff [i] ρ σ (ρ.set i (.fz d)) (σ.set i (some v)) := by
  refine ⟨fun j hj => ?_, fun j hj e z => ?_, List.length_set⟩
  · have : i ≠ j := fun e => hj (by rw [e]; exact List.mem_singleton.mpr rfl)
    rw [List.getElem?_set_ne this, List.getElem?_set_ne this]
    exact ⟨rfl, rfl⟩
  · rw [List.mem_singleton.mp hj, List.getElem?_set] at z
    rw [if_pos rfl] at z
    split at z <;> cases z
theorem pxg_name (i : Nat) {x : Str} (hN : X.N.Nodup) (hi : X.N[i]? = some x) (hx : Loc X.env.scope x) (hf : X.fn x = true ∨ X.env.scope.names.lookup x = some .local := by first | exact .inl rfl | exact .inr rfl | assumption) : PXG G X [i] (.Name x pos) (wgName i) :=
  ⟨_, pg_name hN hi hx hf, fun M ρ σ H v d Q k r rd w q => q _ _ H (rep_set r rd) (Ex.refl _) diff_set w⟩
def wgNil : WGs := fun ds ρ k => ds = [] ∧ k ρ
def wgCons (w : WG) (ws : WGs) : WGs := fun ds ρ k => match ds with
  | d :: r => w d ρ fun ρ1 => ws r ρ1 k
  | [] => False
theorem diff_refl : Diff [] ρ σ ρ σ := ⟨fun _ _ => ⟨rfl, rfl⟩, fun _ h => (nomatch h), rfl⟩
theorem Diff.trans {is js : List Nat} {ρ' ρ'' : Env} {σ' σ'' : L2.St} (a : Diff is ρ σ ρ' σ') (b : Diff js ρ' σ' ρ'' σ'') : Diff (is ++ js) ρ σ ρ'' σ'' := by
  refine ⟨fun j hj => ?_, fun j hj d z => ?_, b.len.trans a.len⟩
  · rw [List.mem_append, not_or] at hj
    obtain ⟨x, y⟩ := b.out j hj.2
    obtain ⟨x', y'⟩ := a.out j hj.1
    exact ⟨x.trans x', y.trans y'⟩
  · by_cases h2 : j ∈ js
    · exact b.no j h2 d z
    · rcases List.mem_append.mp hj with h | h
      · rw [(b.out j h2).1] at z; exact a.no j h d z
      · exact h2 h
theorem pxgs_nil : PXGs G X [] [] wgNil := ⟨_, pgs_nil, fun M ρ σ H vs ds Q k r rd w q => by
  obtain ⟨rfl, w⟩ := w
  cases rd
  exact ⟨rfl, q _ _ H r (Ex.refl _) diff_refl w⟩⟩
theorem pxgs_cons {is js : List Nat} {es : List Expr} {w : WG} {ws : WGs} (h1 : PXG G X is e w) (h2 : PXGs G X js es ws) (hs : (assignEach (e :: es) X.env).map (·.2) = assign e X.env :: (assignEach es X.env).map (·.2) := by rfl) : PXGs G X (is ++ js) (e :: es) (wgCons w ws) := by
  obtain ⟨t1, p1, s1⟩ := h1
  obtain ⟨t2, p2, s2⟩ := h2
  refine ⟨_, pgs_cons p1 p2 hs, fun M ρ σ H vs ds Q k r rd w q => ?_⟩
  cases rd with
  | nil => exact w.elim
  | cons a b =>
    refine ⟨_, _, rfl, s1 M ρ σ H _ _ _ _ r a w fun ρ1 σ1 H1 r1 e1 d1 w1 => ?_⟩
    exact s2 M ρ1 σ1 H1 _ _ _ _ r1 (b.ex (fz_step e1)) w1 fun ρ2 σ2 H2 r2 e2 d2 k2 => q ρ2 σ2 H2 r2 (e1.trans e2) (d1.trans d2) k2
def wgTup (n : Nat) (ws : WGs) : WG := fun d ρ k => match d with
  | .tup ds => ds.length = n ∧ ws ds ρ k
  | _ => False
theorem pxg_tup {is : List Nat} {es : List Expr} {kk : Nat} {ws : WGs} {n : Nat} (hc : X.calm = true) (h : PXGs G X is es ws) (hn : (assignEach es X.env).length = n := by rfl) (hst : (assignEach es X.env).findIdx? (·.1) = none := by rfl) (hK : X.K = G.K := by rfl) :
    PXG G X is (.Tuple es kk pos) (wgTup n ws) := by
  obtain ⟨t, p, s⟩ := h
  refine ⟨_, pg_tup hc p hn hst, fun M ρ σ H v d Q k r rd w q => ?_⟩
  unfold wgTup at w
  split at w
  · obtain ⟨a, xs, rfl, h1, h2⟩ := rd.tup_inv
    rw [hK]
    exact ⟨a, xs, rfl, sqT_ex (fz_ex _ _) h1, by rw [h2.len]; exact w.1, s M ρ σ H _ _ _ _ r h2 w.2 q⟩
  · exact w.elim
/-- x, *rest = a list or a tuple -/
def wgStar (ws : WGs) : WG := fun d ρ k => match d with
  | .lst (d :: ds) => ws [d, .lst ds] ρ k
  | .tup (d :: ds) => ws [d, .lst ds] ρ k
  | _ => False
theorem pxg_star {is : List Nat} {e1 e2 : Expr} {kk : Nat} {p : Pos} {ws : WGs} (hc : X.calm = true) (h : PXGs G X is [e1, e2] ws) (hK : X.K = G.K := by rfl)
    (hl : (assignEach [e1, .Starred e2 p] X.env).length = 2 := by rfl) (hst : (assignEach [e1, .Starred e2 p] X.env).findIdx? (·.1) = some 1 := by rfl)
    (hm : (assignEach [e1, .Starred e2 p] X.env).map (·.2) = (assignEach [e1, e2] X.env).map (·.2) := by rfl) : PXG G X is (.Tuple [e1, .Starred e2 p] kk pos) (wgStar ws) := by
  obtain ⟨t, pp, s⟩ := h
  refine ⟨_, pg_star (K := G.K) hc pp hK hl hst hm, fun M ρ σ H v d Q k r rd w q => ?_⟩
  have fin : ∀ (x : V) (xs : List V) (d : D) (ds : List D), RAll G (Fz M H) (x :: xs) (d :: ds) → ws [d, .lst ds] ρ k → ∀ L, H L = none → t [x, .ref L] σ (upd H L (.lst xs)) Q := by
    intro x xs d ds ra wr L hL
    cases ra with | cons h1 h2 =>
    have e := Ex.new (o := .lst xs) hL
    exact s M ρ σ _ _ _ _ _ (r.ex e) (.cons (h1.ex (fz_step e)) (.cons (r_new_lst r.tr hL h2) .nil)) wr fun ρ2 σ2 H2 r2 e2 d2 k2 => q ρ2 σ2 H2 r2 (e.trans e2) d2 k2
  unfold wgStar at w
  split at w
  · obtain ⟨a, xs, rfl, h1, h2⟩ := rd.lst_inv
    cases h2 with | cons x y => exact ⟨a, _, _, rfl, .inl (SqL.of (fz_ex _ _ _ _ h1)), fin _ _ _ _ (.cons x y) w⟩
  · obtain ⟨a, xs, rfl, h1, h2⟩ := rd.tup_inv
    cases h2 with | cons x y => exact ⟨a, _, _, rfl, .inr (sqT_ex (fz_ex _ _) h1), fin _ _ _ _ (.cons x y) w⟩
  · exact w.elim
/-! ### assignments of values -/
def wAsg (is : List Nat) (we : WE) (wg : WG) : WS := fun P ρ => we ρ (fun s ρ1 => s.val' fun d => (∀ i ∈ is, i ∉ P.pins) ∧ wg d ρ1 P.nx) P.ex
theorem ss_asg {is : List Nat} {te : TE} {tg : TG} {wg : WG} (he : SE G W te we) (hg : SG G is tg wg) : SS G W (tAsg te tg) (wAsg is we wg) := by
  intro c M ρ σ H Z P r w k
  refine he M ρ σ H _ _ _ r.rep w (fun s ρ1 v H1 g rs q => ?_) (k.thr r)
  obtain ⟨d, rd, hp, w2⟩ := rs.val' q
  have r1 := r.go g
  exact hg M ρ1 σ H1 v d _ _ r1.rep rd w2 fun ρ' σ' H' r' e' d' k' => k.nx M ρ' σ' H' (r1.diff r' e' d' (by rw [← k.pins]; exact hp)) k'
theorem py_asg {tg : Expr} {is : List Nat} {wg : WG} (he : PX G X W e we) (hg : PXG G X is tg wg) (hs : swapsWithSole [tg] e pos.line X.env = pure false := by rfl) (hw : swappedStores [tg] e X.env = pure none := by rfl)
    (h1 : (assignEach [tg] X.env).map (·.2) = [assign tg X.env] := by rfl) : PY G X W (.Assign [tg] e pos) (wAsg is we wg) := by
  obtain ⟨te, pe, se⟩ := he
  obtain ⟨tg', pg, sg⟩ := hg
  exact ⟨_, ps_asg pe pg hs hw h1, ss_asg se sg⟩
theorem py_set (i : Nat) {x : Str} {pos' : Pos} (hN : X.N.Nodup) (hi : X.N[i]? = some x) (hx : Loc X.env.scope x) (he : PX G X W e we) (hs : swapsWith e (some (.Name x pos')) pos.line X.env = pure false := by rfl)
    (hf : X.fn x = true ∨ X.env.scope.names.lookup x = some .local := by first | exact .inl rfl | exact .inr rfl | assumption) : PY G X W (.Assign [.Name x pos'] e pos) (wAsg [i] we (wgName i)) := by
  obtain ⟨te, pe, se⟩ := he
  exact ⟨_, ps_set hN hi hx pe hs hf, ss_asg se fun M ρ σ H v d Q k r rd w q => q _ _ H (rep_set r rd) (Ex.refl _) diff_set w⟩
/-- a, b = x, y -/
def wPar (i j : Nat) (wa : WA) : WS := fun P ρ => wa ρ (fun ss ρ1 => ValsD ss fun ds => match ds with
  | [d1, d2] => i ∉ P.pins ∧ j ∉ P.pins ∧ P.nx ((ρ1.set i (.fz d1)).set j (.fz d2))
  | _ => False) P.ex
theorem py_par (i j : Nat) {x y : Str} {a b : Expr} {wa : WA} {px py pt : Pos} {kt k2 pt2} (hc : X.calm = true) (hN : X.N.Nodup) (hi : X.N[i]? = some x) (hj : X.N[j]? = some y) (hij : i ≠ j)
    (hx : X.env.scope.names.lookup x = some .local) (hy : X.env.scope.names.lookup y = some .local) (ha : PXA G X W [a, b] wa)
    (hw : swappedStores [.Tuple [.Name x px, .Name y py] kt pt] (.Tuple [a, b] k2 pt2) X.env = pure (some [x, y]) := by rfl)
    (hs : swapsWithSole [.Tuple [.Name x px, .Name y py] kt pt] (.Tuple [a, b] k2 pt2) pos.line X.env = pure false := by rfl) :
    PY G X W (.Assign [.Tuple [.Name x px, .Name y py] kt pt] (.Tuple [a, b] k2 pt2) pos) (wPar i j wa) := by
  obtain ⟨ta, pa, sa⟩ := ha
  refine ⟨_, ps_par hc hN hi hj hij hx hy pa hw hs, fun c M ρ σ H Z P r w k => sa M ρ σ H _ _ _ r.rep w (fun ss ρ1 vs H1 g rs q => ?_) (k.thr r)⟩
  obtain ⟨ds, ra, q⟩ := rs.vals q
  split at q
  · rename_i e1 e2
    obtain ⟨v1, v2, rfl, h1, h2⟩ : ∃ v1 v2, vs = [v1, v2] ∧ R G (Fz M H1) v1 e1 ∧ R G (Fz M H1) v2 e2 := by
      cases ra with | cons h1 h2 => cases h2 with | cons h2 h3 => cases h3; exact ⟨_, _, rfl, h1, h2⟩
    refine ⟨_, _, rfl, ?_⟩
    have r1 := r.go g
    refine k.nx M _ _ _ (r1.diff (is := [i, j]) (rep_set (rep_set r1.rep h1) h2) (Ex.refl _) (diff_set.trans diff_set) ?_) q.2.2
    rw [← k.pins]
    intro n hn
    rcases List.mem_cons.mp hn with rfl | hn
    · exact q.1
    · rw [List.mem_singleton.mp hn]; exact q.2.1
  · exact q.elim
/-- x += e -/
def wAug (i : Nat) (op : Op2) (we : WE) : WS := fun P ρ => match ρ[i]? with
  | some (.fz d1) => we ρ (fun s ρ1 => s.gets ρ1 fun d2 => op d1 d2 fun d => i ∉ P.pins ∧ P.nx (ρ1.set i (.fz d))) P.ex
  | _ => False
def IpS (G : Gx) (op : Op2) (r : TIp) : Prop := OpS G op r
theorem py_aug (i : Nat) {x : Str} {op : Operator} {ti : TIp} {o2 : Op2} {pos' : Pos} (hN : X.N.Nodup) (hi : X.N[i]? = some x) (hx : Loc X.env.scope x) (ho : PIp X op ti) (hs : IpS G o2 ti) (he : PX G X W e we)
    (hf : X.fn x = true ∨ X.env.scope.names.lookup x = some .local := by first | exact .inl rfl | exact .inr rfl | assumption) : PY G X W (.AugAssign (.Name x pos') op e pos) (wAug i o2 we) := by
  obtain ⟨te, pe, se⟩ := he
  refine ⟨_, ps_aug hN hi hx pe ho hf, fun c M ρ σ H Z P r w k => ?_⟩
  unfold wAug at w
  split at w
  · rename_i d1 hd
    obtain ⟨v, h1, h2⟩ := r.rep.fz i d1 hd
    refine ⟨v, h1, se M ρ σ H _ _ _ r.rep w (fun s ρ1 y H1 g rs q => ?_) (k.thr r)⟩
    obtain ⟨d2, a2, q⟩ := rs.arg g.rep q
    refine hs M H1 v y d1 d2 _ g.rep.tr (.fz (h2.ex (g.fz r.rep))) a2 q _ fun d u H2 e rd kd => ?_
    have r1 := (r.go g).go (Go.ex g.rep e)
    exact k.nx M _ _ _ (r1.diff (is := [i]) (rep_set r1.rep rd) (Ex.refl _) diff_set (by rw [← k.pins]; intro n hn; rw [List.mem_singleton.mp hn]; exact kd.1)) kd.2
  · exact w.elim
def dIAdd : Op2 := fun x y k => match x, y with
  | .int i, .int j => k (.int (i + j))
  | _, _ => False
def dISub : Op2 := fun x y k => match x, y with
  | .int i, .int j => k (.int (i - j))
  | _, _ => False
theorem iadd_s : IpS G dIAdd (ipI fun i j => i + j) := by
  intro M H x y d1 d2 k t a1 a2 h Q q
  unfold dIAdd at h
  split at h
  · exact ⟨_, _, a1.int, a2.int, q (.int _) _ H (Ex.refl _) (R.int _) h⟩
  · exact h.elim
theorem isub_s : IpS G dISub (ipI fun i j => i - j) := by
  intro M H x y d1 d2 k t a1 a2 h Q q
  unfold dISub at h
  split at h
  · exact ⟨_, _, a1.int, a2.int, q (.int _) _ H (Ex.refl _) (R.int _) h⟩
  · exact h.elim
/-! ### while -/
def wWhile (wt : WT) (wb : WS) : WS := fun P ρ => ∃ I : Nat → Env → Prop, (∃ m, I m ρ) ∧ ∀ m ρ, I m ρ → wt ρ (fun b ρ1 => if b = true then wb { P with nx := fun ρ' => ∃ m', m' < m ∧ I m' ρ', ct := fun ρ' => ∃ m', m' < m ∧ I m' ρ', bk := P.nx } ρ1 else P.nx ρ1) P.ex
theorem py_while {t : Expr} {body : List Stmt} (hp : PassesOwn (model X.prog X.w) X.A X.env X.xe) (ht : PXT G X W t wt) (hb : PYs G X W body wb) : PY G X W (.While t body [] pos) (wWhile wt wb) := by
  obtain ⟨tt, pt, stt⟩ := ht
  obtain ⟨tb, pb, sb⟩ := hb
  refine ⟨_, ps_while hp pt pb, fun c M ρ σ H Z P r ⟨I, ⟨m0, h0⟩, turn⟩ k => ?_⟩
  refine ⟨fun m σ H => ∃ M ρ, RepS G c M ρ σ H ∧ I m ρ, ⟨m0, M, ρ, r, h0⟩, ?_⟩
  rintro m σ1 H1 ⟨M1, ρ1, r1, h1⟩
  refine stt M1 ρ1 σ1 H1 _ _ _ r1.rep (turn m ρ1 h1) (fun b ρ2 H2 g q => ?_) (k.thr r1)
  cases b with
  | false => rw [if_neg Bool.false_ne_true] at q ⊢; exact k.nx M1 ρ2 σ1 H2 (r1.go g) q
  | true =>
    rw [if_pos rfl] at q ⊢
    refine ⟨fun σ' H' => ∃ m', m' < m ∧ ∃ M ρ, RepS G c M ρ σ' H' ∧ I m' ρ, fun _ _ z => z, sb c M1 ρ2 σ1 H2 _ _ (r1.go g) q ⟨k.pins, fun M3 ρ3 σ3 H3 r3 ⟨m', hm, i3⟩ => ⟨m', hm, M3, ρ3, r3, i3⟩, k.rt, k.rn, fun M3 ρ3 σ3 H3 r3 q3 => k.nx M3 ρ3 σ3 H3 r3 q3, fun M3 ρ3 σ3 H3 r3 ⟨m', hm, i3⟩ => ⟨m', hm, M3, ρ3, r3, i3⟩, k.ex⟩⟩
end
end Pu
/-! ### the pure layer: loops and comprehensions -/
namespace Pu
open PySem PySem.Spec PyProof.Rows L2 Lk Evl
/-- while the values stand, J gives the items ds -/
structure Fd (G : Gx) (M1 : List Addr) (H1 : Hp) (J : It) (ds : List D) : Prop where
  go : ∀ i M H, Ex (Fz M1 H1) (Fz M H) → i < ds.length → J.go i H
  yld : ∀ i M H x H', Ex (Fz M1 H1) (Fz M H) → Trk M H → i < ds.length → J.yld i H x H' → Ex H H' ∧ ∃ d, ds[i]? = some d ∧ R G (Fz M H') x d
  stop : ∀ M H, Ex (Fz M1 H1) (Fz M H) → J.stop ds.length H
abbrev WI := Env → (List D → Env → Prop) → EQ → Prop
def SI (G : Gx) (W : WX) (t : TI) (w : WI) : Prop := ∀ M ρ σ H q eq R, Rep G M ρ σ H → w ρ q eq → (∀ ds ρ' H' J, Go G M σ ρ H ρ' H' → Fd G M H' J ds → q ds ρ' → R J H') → Thr G M W σ ρ H eq → t σ H R
structure PXI (G : Gx) (X : Cx) (W : WX) (tg e : Expr) (w : WI) : Prop where
  ex : ∃ t, PI X tg e t ∧ SI G W t w
section
variable {G : Gx} {X : Cx} {W : WX} {M M1 : List Addr} {ρ : Env} {σ : L2.St} {H H1 : Hp} {e tg : Expr} {we : WE} {pos p : Pos}
/-! ### sources -/
def iAny (K : PySem.W.Frag) (te : TE) : TI := fun σ H R => te σ H fun x H1 => (∃ a, x = .ref a ∧ (∃ xs, SqL K H1 a xs) ∧ R (Itl K a) H1) ∨ (∃ a, x = .ref a ∧ (∃ xs, SqT K H1 a xs) ∧ R (Itt K a) H1) ∨ ∃ z, x = .str z ∧ R (Its z) H1
theorem pi_any {te : TE} (he : PE X e te) (hK : X.K = G.K := by rfl) : PI X tg e (iAny G.K te) := by
  rw [← hK]
  constructor
  intro pins s σ H R I h
  refine thn (he.run pins s σ H _ I h) ?_
  rintro v s1 ⟨x, H1, I1, r1, q⟩
  have one : ∀ (o : Obj) (J : It) (tn : Nat → Heap → Prop), Turn X.prog X.w X.K tg J [s1.heap.objs.size] s1.heap.objs.size tn → tn 0 (s1.heap.push o) → R J H1 → PIE X pins σ tg R (.ref s1.heap.objs.size) { s1 with heap := s1.heap.push o } :=
    fun o J tn T st q => pi_one (tk := s1.toks) I1 o T st q
  rcases q with ⟨a, rfl, ⟨xs, hs⟩, q⟩ | ⟨a, rfl, ⟨xs, hs⟩, q⟩ | ⟨z, rfl, q⟩
  · obtain ⟨its, _, hp, _⟩ := I1.list hs
    cases r1
    exact wpAny_pyIter_list hp.isList (one _ _ _ (turn_list a _) ⟨_, Heap.get?_push_size _ rfl, rfl, rfl⟩ q)
  · obtain ⟨its, _, hp, _⟩ := I1.tuple hs
    cases r1
    exact wpAny_pyIter_tuple hp (one _ _ _ (turn_tuple a _) ⟨_, Heap.get?_push_size _ rfl, rfl, rfl⟩ q)
  · obtain ⟨t, rfl⟩ := r1
    by_cases ha : z.cps.all (· < 128) = true
    · exact wpAny_pyIter_ascii ha (one _ _ _ (turn_str _ z t "str_ascii_iterator" (.inl rfl)) ⟨_, Heap.get?_push_size _ rfl, rfl, rfl⟩ q)
    · exact wpAny_pyIter_wide (by simpa using ha) (one _ _ _ (turn_str _ z t "str_iterator" (.inr rfl)) ⟨_, Heap.get?_push_size _ rfl, rfl, rfl⟩ q)
theorem fd_list {a : Addr} {xs : List V} {ds : List D} (hs : Fz M1 H1 a = some (.lst xs)) (h : RAll G (Fz M1 H1) xs ds) : Fd G M1 H1 (Itl G.K a) ds := by
  have at' : ∀ M H, Ex (Fz M1 H1) (Fz M H) → SqL G.K H a xs := fun M H e => SqL.of (fz_ex _ _ _ _ (e _ _ hs))
  refine ⟨fun i M H e hi => ?_, fun i M H x H' e t hi y => ?_, fun M H e => ⟨xs, at' M H e, by rw [h.len]; exact Nat.le_refl _⟩⟩
  · exact ⟨xs, xs[i]'(by rw [h.len]; exact hi), at' M H e, List.getElem?_eq_getElem _⟩
  · obtain ⟨rfl, y⟩ := y
    obtain ⟨d, e1, e2⟩ := h.get' (y xs (at' M _ e))
    exact ⟨Ex.refl _, d, e1, e2.ex e⟩
theorem fd_sl {a : Addr} {xs : List V} {ds : List D} (hs : SqL G.K (Fz M1 H1) a xs) (h : RAll G (Fz M1 H1) xs ds) : Fd G M1 H1 (Itl G.K a) ds := by
  have at' : ∀ M H, Ex (Fz M1 H1) (Fz M H) → SqL G.K H a xs := fun M H e => sqL_ex (fz_ex _ _) (sqL_ex e hs)
  refine ⟨fun i M H e hi => ?_, fun i M H x H' e t hi y => ?_, fun M H e => ⟨xs, at' M H e, by rw [h.len]; exact Nat.le_refl _⟩⟩
  · exact ⟨xs, xs[i]'(by rw [h.len]; exact hi), at' M H e, List.getElem?_eq_getElem _⟩
  · obtain ⟨rfl, y⟩ := y
    obtain ⟨d, e1, e2⟩ := h.get' (y xs (at' M _ e))
    exact ⟨Ex.refl _, d, e1, e2.ex e⟩
theorem fd_tup {a : Addr} {xs : List V} {ds : List D} (hs : SqT G.K (Fz M1 H1) a xs) (h : RAll G (Fz M1 H1) xs ds) : Fd G M1 H1 (Itt G.K a) ds := by
  have at' : ∀ M H, Ex (Fz M1 H1) (Fz M H) → SqT G.K H a xs := fun M H e => sqT_ex (fz_ex _ _) (sqT_ex e hs)
  refine ⟨fun i M H e hi => ?_, fun i M H x H' e t hi y => ?_, fun M H e => ⟨xs, at' M H e, by rw [h.len]; exact Nat.le_refl _⟩⟩
  · exact ⟨xs, xs[i]'(by rw [h.len]; exact hi), at' M H e, List.getElem?_eq_getElem _⟩
  · obtain ⟨rfl, y⟩ := y
    obtain ⟨d, e1, e2⟩ := h.get' (y xs (at' M _ e))
    exact ⟨Ex.refl _, d, e1, e2.ex e⟩
abbrev sgnD (c : Nat) : D := .str (sgn c)
theorem fd_str (z : Str) : Fd G M1 H1 (Its z) (z.cps.toList.map sgnD) := by
  refine ⟨fun i M H e hi => by simpa [Its] using hi, fun i M H x H' e t hi y => ?_, fun M H e => by simp [Its]⟩
  obtain ⟨rfl, c, hc, rfl⟩ := y
  refine ⟨Ex.refl _, sgnD c, ?_, R.str _⟩
  rw [List.getElem?_map, show z.cps.toList[i]? = some c by simpa using hc]; rfl
/-- what a value holds, one by one -/
def dItems (d : D) (k : List D → Prop) : Prop := match d with
  | .lst ds => k ds
  | .sl ds => k ds
  | .tup ds => k ds
  | .str z => k (z.cps.toList.map sgnD)
  | _ => False
def wItems (we : WE) : WI := fun ρ q e => we ρ (fun s ρ1 => s.val' fun d => dItems d fun ds => q ds ρ1) e
theorem pxi_any (he : PX G X W e we) (hK : X.K = G.K := by rfl) : PXI G X W tg e (wItems we) := by
  obtain ⟨te, pe, se⟩ := he
  refine ⟨_, pi_any pe hK, fun M ρ σ H q eq R rp w k th => se M ρ σ H _ eq _ rp w (fun s ρ1 v H1 g rs q => ?_) th⟩
  obtain ⟨d, rd, q⟩ := rs.val' q
  unfold dItems at q
  split at q
  · obtain ⟨a, xs, rfl, h1, h2⟩ := rd.lst_inv
    exact .inl ⟨a, rfl, ⟨xs, SqL.of (fz_ex _ _ _ _ h1)⟩, k _ ρ1 H1 _ g (fd_list h1 h2) q⟩
  · obtain ⟨a, xs, rfl, h1, h2⟩ := rd.sl_inv
    exact .inl ⟨a, rfl, ⟨xs, sqL_ex (fz_ex _ _) h1⟩, k _ ρ1 H1 _ g (fd_sl h1 h2) q⟩
  · obtain ⟨a, xs, rfl, h1, h2⟩ := rd.tup_inv
    exact .inr (.inl ⟨a, rfl, ⟨xs, sqT_ex (fz_ex _ _) h1⟩, k _ ρ1 H1 _ g (fd_tup h1 h2) q⟩)
  · exact .inr (.inr ⟨_, rd.str_inv, k _ ρ1 H1 _ g (fd_str _) q⟩)
  · exact q.elim
/-! ### ranges -/
theorem fd_rng (lo : Int) (n : Nat) : Fd G M1 H1 (Itr lo n) ((List.range n).map fun i => D.int (lo + (i : Nat))) := by
  refine ⟨fun i M H e hi => by simpa [Itr] using hi, fun i M H x H' e t hi y => ?_, fun M H e => by simp [Itr]⟩
  obtain ⟨rfl, rfl⟩ := y
  rw [List.length_map, List.length_range] at hi
  exact ⟨Ex.refl _, .int (lo + (i : Nat)), by rw [List.getElem?_map, List.getElem?_range hi]; rfl, R.int _⟩
def wRng1 (wa : WA) : WI := fun ρ q e => wa ρ (fun ss ρ1 => gets2 ρ1 ss fun ds => match ds with
  | [.int j] => (-(2 ^ 62) ≤ j ∧ j < 2 ^ 62) ∧ q ((List.range j.toNat).map fun i => D.int (0 + (i : Nat))) ρ1
  | _ => False) e
theorem pxi_range1 {a : Expr} {wa : WA} (hg : Gl X "range") (hm : X.mg "range" = none) (ha : PXA G X W [a] wa) (hs : starEach [a] X.env = [(false, eval a X.env)] := by rfl) : PXI G X W tg (.Call (.Name "range" p) [a] [] pos) (wRng1 wa) := by
  obtain ⟨ta, pa, sa⟩ := ha
  refine ⟨_, pi_range1 hg hm pa hs, fun M ρ σ H q eq R rp w k th => sa M ρ σ H _ eq _ rp w (fun ss ρ1 vs H1 g rs q => ?_) th⟩
  obtain ⟨ds, a1, q⟩ := RSs.args g.rep rs q
  split at q
  · obtain ⟨v, rfl, a2⟩ := a1.one
    exact ⟨_, by rw [a2.int], q.1.1, q.1.2, k _ ρ1 H1 _ g (fd_rng 0 _) q.2⟩
  · exact q.elim
def wRng2 (wa : WA) : WI := fun ρ q e => wa ρ (fun ss ρ1 => gets2 ρ1 ss fun ds => match ds with
  | [.int i, .int j] => (-(2 ^ 62) ≤ i ∧ i < 2 ^ 62 ∧ -(2 ^ 62) ≤ j ∧ j < 2 ^ 62) ∧ q ((List.range (j - i).toNat).map fun n => D.int (i + (n : Nat))) ρ1
  | _ => False) e
theorem pxi_range2 {a b : Expr} {wa : WA} (hg : Gl X "range") (hm : X.mg "range" = none) (ha : PXA G X W [a, b] wa) (hs : starEach [a, b] X.env = [(false, eval a X.env), (false, eval b X.env)] := by rfl) (hs2 : starEach [b] X.env = [(false, eval b X.env)] := by rfl) :
    PXI G X W tg (.Call (.Name "range" p) [a, b] [] pos) (wRng2 wa) := by
  obtain ⟨ta, pa, sa⟩ := ha
  refine ⟨_, pi_range2 hg hm pa hs hs2, fun M ρ σ H q eq R rp w k th => sa M ρ σ H _ eq _ rp w (fun ss ρ1 vs H1 g rs q => ?_) th⟩
  obtain ⟨ds, a1, q⟩ := RSs.args g.rep rs q
  split at q
  · obtain ⟨v, u, rfl, a2, a3⟩ := a1.two
    exact ⟨_, _, by rw [a2.int, a3.int], q.1, k _ ρ1 H1 _ g (fd_rng _ _) q.2⟩
  · exact q.elim
theorem fd_rngC (lo c : Int) (n : Nat) : Fd G M1 H1 (Itc lo c n) ((List.range n).map fun i => D.int (lo + (i : Nat) * c)) := by
  refine ⟨fun i M H e hi => by simpa [Itc] using hi, fun i M H x H' e t hi y => ?_, fun M H e => by simp [Itc]⟩
  obtain ⟨rfl, rfl⟩ := y
  rw [List.length_map, List.length_range] at hi
  exact ⟨Ex.refl _, .int (lo + (i : Nat) * c), by rw [List.getElem?_map, List.getElem?_range hi]; rfl, R.int _⟩
def wRng3 (wa : WA) : WI := fun ρ q e => wa ρ (fun ss ρ1 => gets2 ρ1 ss fun ds => match ds with
  | [.int i, .int j, .int c] => ∃ n, RgC i j c n ∧ q ((List.range n).map fun m => D.int (i + (m : Nat) * c)) ρ1
  | _ => False) e
theorem pxi_range3 {a b c : Expr} {wa : WA} (hg : Gl X "range") (hm : X.mg "range" = none) (ha : PXA G X W [a, b, c] wa) (hs : starEach [a, b, c] X.env = (false, eval a X.env) :: starEach [b, c] X.env := by rfl) (hpl : (backTo pos (starEach [b, c] X.env)).any (·.1) = false := by rfl) :
    PXI G X W tg (.Call (.Name "range" p) [a, b, c] [] pos) (wRng3 wa) := by
  obtain ⟨ta, pa, sa⟩ := ha
  refine ⟨_, pi_range3 hg hm pa hs hpl, fun M ρ σ H q eq R rp w k th => sa M ρ σ H _ eq _ rp w (fun ss ρ1 vs H1 g rs q => ?_) th⟩
  obtain ⟨ds, a1, q⟩ := RSs.args g.rep rs q
  split at q
  · obtain ⟨v, u, w', rfl, a2, a3, a4⟩ := a1.three
    obtain ⟨n, hr, q⟩ := q
    exact ⟨_, _, _, n, by rw [a2.int, a3.int, a4.int], hr, k _ ρ1 H1 _ g (fd_rngC _ _ _) q⟩
  · exact q.elim
/-! ### for -/
def wFor (is : List Nat) (wi : WI) (wg : WG) (wb : WS) : WS := fun P ρ => wi ρ (fun ds ρ1 => (∀ i ∈ is, i ∉ P.pins) ∧ ∃ I : Nat → Env → Prop, I 0 ρ1 ∧
  (∀ i d ρ', ds[i]? = some d → I i ρ' → wg d ρ' fun ρ2 => wb { P with nx := I (i + 1), ct := I (i + 1), bk := P.nx } ρ2) ∧ ∀ ρ', I ds.length ρ' → P.nx ρ') P.ex
/-- a frame more: what stands now stands -/
def Cxt.fr (c : Cxt) (M : List Addr) (H : Hp) : Cxt := { c with frs := (M, H) :: c.frs }
theorem RepS.fr1 {c : Cxt} (r : RepS G c M ρ σ H) : RepS G (c.fr M H) M ρ σ H := ⟨r.rep, r.sub, r.kp, r.own, r.pin, r.old, r.new, r.tT, fun f hf => by
  rcases List.mem_cons.mp hf with rfl | hf
  · exact Ex.refl _
  · exact r.fr f hf⟩
theorem RepS.fr0 {c : Cxt} {N : List Addr} {K : Hp} (r : RepS G (c.fr N K) M ρ σ H) : RepS G c M ρ σ H := ⟨r.rep, r.sub, r.kp, r.own, r.pin, r.old, r.new, r.tT, fun f hf => r.fr f (List.mem_cons_of_mem _ hf)⟩
theorem RepS.frE {c : Cxt} {N : List Addr} {K : Hp} (r : RepS G (c.fr N K) M ρ σ H) : Ex (Fz N K) (Fz M H) := r.fr _ List.mem_cons_self
theorem py_for {is : List Nat} {wi : WI} {wg : WG} {wb : WS} {body : List Stmt} (hp : PassesOwn (model X.prog X.w) X.A X.env X.xe) (hc : X.calm = true) (hi : PXI G X W tg e wi) (hg : PXG G X is tg wg) (hb : PYs G X W body wb)
    (hs : ∀ x, foldedSetIterable e X.env x = pure x := by intro _; rfl) : PY G X W (.For tg e body [] pos) (wFor is wi wg wb) := by
  obtain ⟨ti, pi, si⟩ := hi
  obtain ⟨tg', pg, sg⟩ := hg
  obtain ⟨tb, pb, sb⟩ := hb
  refine ⟨_, ps_for hp hc pi pg pb hs, fun c M ρ σ H Z P r w k => ?_⟩
  refine si M ρ σ H _ _ _ r.rep w (fun ds ρ1 H1 J g F q => ?_) (k.thr r)
  obtain ⟨hpin, I, h0, turn, fin⟩ := q
  have r1 := (r.go g).fr1
  refine ⟨fun i m σ H => ∃ M' ρ', RepS G (c.fr M H1) M' ρ' σ H ∧ I i ρ' ∧ i ≤ ds.length ∧ m = ds.length - i, ⟨_, M, ρ1, r1, h0, Nat.zero_le _, rfl⟩, ?_⟩
  rintro i m σ2 H2 ⟨M2, ρ2, r2, hI, hi, rfl⟩
  by_cases hlt : i < ds.length
  · refine .inr ⟨F.go i M2 H2 r2.frE hlt, fun σ' H' => ∃ M' ρ', RepS G (c.fr M H1) M' ρ' σ' H' ∧ I (i + 1) ρ', fun σ' H' ⟨M', ρ', a, b⟩ => ⟨_, by omega, M', ρ', a, b, hlt, rfl⟩, fun x H3 hy => ?_⟩
    obtain ⟨e3, d, hd, rd⟩ := F.yld i M2 H2 x H3 r2.frE r2.rep.tr hlt hy
    have r3 : RepS G (c.fr M H1) M2 ρ2 σ2 H3 := r2.go (Go.ex r2.rep e3)
    refine sg M2 ρ2 σ2 H3 x d _ _ r3.rep rd (turn i d ρ2 hd hI) fun ρ4 σ4 H4 r4 e4 d4 w4 => ?_
    have r5 := r3.diff r4 e4 d4 (by
      intro j hj
      have := hpin j hj
      rw [k.pins] at this
      exact this)
    exact sb (c.fr M H1) M2 ρ4 σ4 H4 _ _ r5 w4 ⟨k.pins, fun M6 ρ6 σ6 H6 r6 q6 => ⟨M6, ρ6, r6, q6⟩, fun s M6 ρ6 σ6 v H6 r6 => k.rt s M6 ρ6 σ6 v H6 r6.fr0, fun d M6 ρ6 σ6 a H6 r6 => k.rn d M6 ρ6 σ6 a H6 r6.fr0, fun M6 ρ6 σ6 H6 r6 q6 => k.nx M6 ρ6 σ6 H6 r6.fr0 q6,
      fun M6 ρ6 σ6 H6 r6 q6 => ⟨M6, ρ6, r6, q6⟩, fun C ns vs M6 ρ6 σ6 dx H6 r6 => k.ex C ns vs M6 ρ6 σ6 dx H6 r6.fr0⟩
  · have e2 : i = ds.length := by omega
    subst e2
    exact .inl ⟨F.stop M2 H2 r2.frE, k.nx M2 ρ2 σ2 H2 r2.fr0 (fin ρ2 hI)⟩
/-! ### list comprehensions -/
def wipeE (vs : List Nat) (ρ : Env) : Env := match vs with
  | [] => ρ
  | v :: vs => (wipeE vs ρ).set v .un
/-- the slots vs as they were -/
def backE (vs : List Nat) (ρ0 ρ : Env) : Env := match vs with
  | [] => ρ
  | v :: vs => match ρ0[v]? with
    | some c => (backE vs ρ0 ρ).set v c
    | none => backE vs ρ0 ρ
theorem wipe_get {vs : List Nat} {σ : L2.St} (i : Nat) : (wipe σ vs)[i]? = if i ∈ vs ∧ i < σ.length then some none else σ[i]? := by
  induction vs with
  | nil => simp [wipe]
  | cons v vs ih =>
    unfold wipe
    rw [List.getElem?_set, wipe_length]
    by_cases h : v = i
    · subst h
      by_cases hl : v < σ.length
      · rw [if_pos rfl, if_pos hl, if_pos ⟨List.mem_cons_self, hl⟩]
      · rw [if_pos rfl, if_neg hl, if_neg (by rintro ⟨_, z⟩; exact hl z), List.getElem?_eq_none (by omega)]
    · rw [if_neg h, ih]
      by_cases hm : i ∈ vs ∧ i < σ.length
      · rw [if_pos hm, if_pos ⟨List.mem_cons_of_mem _ hm.1, hm.2⟩]
      · rw [if_neg hm, if_neg (by
          rintro ⟨z, y⟩
          rcases List.mem_cons.mp z with q | q
          · exact h q.symm
          · exact hm ⟨q, y⟩)]
theorem wipeE_len (vs : List Nat) (ρ : Env) : (wipeE vs ρ).length = ρ.length := by
  induction vs with
  | nil => rfl
  | cons v vs ih => unfold wipeE; rw [List.length_set, ih]
theorem wipeE_get {vs : List Nat} {ρ : Env} (i : Nat) : (wipeE vs ρ)[i]? = if i ∈ vs ∧ i < ρ.length then some .un else ρ[i]? := by
  induction vs with
  | nil => simp [wipeE]
  | cons v vs ih =>
    unfold wipeE
    rw [List.getElem?_set, wipeE_len]
    by_cases h : v = i
    · subst h
      by_cases hl : v < ρ.length
      · rw [if_pos rfl, if_pos hl, if_pos ⟨List.mem_cons_self, hl⟩]
      · rw [if_pos rfl, if_neg hl, if_neg (by rintro ⟨_, z⟩; exact hl z), List.getElem?_eq_none (by omega)]
    · rw [if_neg h, ih]
      by_cases hm : i ∈ vs ∧ i < ρ.length
      · rw [if_pos hm, if_pos ⟨List.mem_cons_of_mem _ hm.1, hm.2⟩]
      · rw [if_neg hm, if_neg (by
          rintro ⟨z, y⟩
          rcases List.mem_cons.mp z with q | q
          · exact h q.symm
          · exact hm ⟨q, y⟩)]
theorem backE_get {vs : List Nat} {ρ0 ρ : Env} (hl : ρ0.length = ρ.length) (i : Nat) : (backE vs ρ0 ρ)[i]? = if i ∈ vs then ρ0[i]? else ρ[i]? := by
  have hlen : ∀ vs : List Nat, (backE vs ρ0 ρ).length = ρ.length := by
    intro vs
    induction vs with
    | nil => rfl
    | cons v vs ih => unfold backE; split <;> simp [ih]
  induction vs with
  | nil => simp [backE]
  | cons v vs ih =>
    unfold backE
    by_cases h : v = i
    · subst h
      rw [if_pos List.mem_cons_self]
      cases e : ρ0[v]? with
      | some c =>
        have hv : v < ρ0.length := (List.getElem?_eq_some_iff.mp e).1
        rw [List.getElem?_set, if_pos rfl, if_pos (by rw [hlen]; omega)]
      | none =>
        have hv : ρ0.length ≤ v := List.getElem?_eq_none_iff.mp e
        exact List.getElem?_eq_none (by rw [hlen]; omega)
    · have hm : i ∈ v :: vs ↔ i ∈ vs := ⟨fun z => (List.mem_cons.mp z).resolve_left fun q => h q.symm, List.mem_cons_of_mem _⟩
      simp only [hm]
      split
      · rw [List.getElem?_set_ne h, ih]
      · exact ih
/-- no slot of vs is owned -/
def NoOw (vs : List Nat) (ρ : Env) : Prop := ∀ i ∈ vs, ∀ d, ρ[i]? ≠ some (.ow d)
theorem rep_wipe {vs : List Nat} (r : Rep G M ρ σ H) : Rep G M (wipeE vs ρ) (wipe σ vs) H := by
  refine ⟨by rw [wipeE_len, wipe_length, r.len], fun i d h => ?_, fun i d h => ?_, fun i j a d d' h1 h2 h3 h4 => ?_, r.trk, r.tab, r.tm⟩
  · rw [wipeE_get] at h
    split at h
    · cases h
    · rename_i hn
      obtain ⟨v, h1, h2⟩ := r.fz i d h
      exact ⟨v, by rw [wipe_get, if_neg (by rw [← r.len]; exact hn)]; exact h1, h2⟩
  · rw [wipeE_get] at h
    split at h
    · cases h
    · rename_i hn
      obtain ⟨v, h1, h2⟩ := r.ow i d h
      exact ⟨v, by rw [wipe_get, if_neg (by rw [← r.len]; exact hn)]; exact h1, h2⟩
  · rw [wipeE_get] at h1 h2
    rw [wipe_get] at h3 h4
    split at h1
    · cases h1
    · split at h2
      · cases h2
      · split at h3
        · cases h3
        · split at h4
          · cases h4
          · exact r.inj i j a d d' h1 h2 h3 h4
theorem go_wipe {vs : List Nat} (r : Rep G M ρ σ H) (no : NoOw vs ρ) {ρ2 : Env} {H2 : Hp} (rp : Rep G M ρ2 (wipe σ vs) H2) (kin : Kin (wipeE vs ρ) ρ2) (kp : Keep (Seen ρ σ) H H2) : Go G M σ ρ H (backE vs ρ ρ2) H2 := by
  have hl : ρ.length = ρ2.length := by rw [rp.len, wipe_length, r.len]
  have fz2 : Ex (Fz M H) (Fz M H2) := fun b o h => by
    obtain ⟨n, e, t⟩ := fz_of3 h
    exact fz_in n (kp b o e (fun z => n (r.seenM z)) t) t
  -- off vs both stand side by side
  have off : ∀ i, i ∉ vs → (wipe σ vs)[i]? = σ[i]? := fun i hi => by rw [wipe_get, if_neg (fun z => hi z.1)]
  refine ⟨⟨?_, fun i d h => ?_, fun i d h => ?_, fun i j a d d' h1 h2 h3 h4 => ?_, rp.trk, rp.tab, rp.tm⟩, fun i => ?_, kp⟩
  · have : (backE vs ρ ρ2).length = ρ2.length := by
      clear rp kin kp no r off fz2
      induction vs with
      | nil => rfl
      | cons v vs ih => unfold backE; split <;> simp [ih]
    rw [this, ← hl, r.len]
  · rw [backE_get hl] at h
    split at h
    · obtain ⟨v, h1, h2⟩ := r.fz i d h
      exact ⟨v, h1, h2.ex fz2⟩
    · rename_i hn
      obtain ⟨v, h1, h2⟩ := rp.fz i d h
      rw [off i hn] at h1
      exact ⟨v, h1, h2⟩
  · rw [backE_get hl] at h
    split at h
    · rename_i hm
      exact absurd h (no i hm d)
    · rename_i hn
      obtain ⟨v, h1, h2⟩ := rp.ow i d h
      rw [off i hn] at h1
      exact ⟨v, h1, h2⟩
  · rw [backE_get hl] at h1 h2
    split at h1
    · rename_i hm; exact absurd h1 (no i hm d)
    · rename_i hn
      split at h2
      · rename_i hm; exact absurd h2 (no j hm d')
      · rename_i hn2
        rw [← off i hn] at h3
        rw [← off j hn2] at h4
        exact rp.inj i j a d d' h1 h2 h3 h4
  · rw [backE_get hl]
    split
    · exact .inl rfl
    · rename_i hn
      have hw : (wipeE vs ρ)[i]? = ρ[i]? := by rw [wipeE_get, if_neg (fun z => hn z.1)]
      rcases kin i with q | ⟨d, d', q1, q2⟩
      · exact .inl (q.trans hw)
      · exact .inr ⟨d, d', by rw [← hw]; exact q1, q2⟩
end
end Pu
/-! ### the pure layer: new containers; comprehensions -/
namespace Pu
open PySem PySem.Spec PyProof.Rows L2 Lk Evl
abbrev WN := Env → (D → Env → Prop) → EQ → Prop
/-- a new container, that nothing else holds -/
def SN (G : Gx) (W : WX) (t : TE) (w : WN) : Prop := ∀ M ρ σ H q eq Q, Rep G M ρ σ H → w ρ q eq →
  (∀ d ρ' a H', Go G M σ ρ H ρ' H' → a ∉ M → New H a → Rep G (a :: M) ρ' σ H' → Own G (a :: M) H' a d → q d ρ' → Q (.ref a) H') → Thr G M W σ ρ H eq → t σ H Q
structure PXN (G : Gx) (X : Cx) (W : WX) (e : Expr) (w : WN) : Prop where
  ex : ∃ t, PE X e t ∧ SN G W t w
/-- as a value -/
def wV (w : WN) : WE := fun ρ q e => w ρ (fun d ρ' => q (.val d) ρ') e
theorem own_r {G : Gx} {M : List Addr} {H : Hp} {a : Addr} {d : D} (n : a ∉ M) (h : Own G (a :: M) H a d) : R G (Fz M H) (.ref a) d := by
  have e : Ex (Fz (a :: M) H) (Fz M H) := fz_anti fun b hb => List.mem_cons_of_mem _ hb
  cases d <;> first | exact h.elim | skip
  · obtain ⟨xs, h1, h2⟩ := h; exact .lst (fz_in n h1) (h2.ex e)
  · obtain ⟨kvs, h1, h2, h3⟩ := h; exact .dct ⟨kvs, .inl (fz_in n h1), rfl, rfl⟩ (h2.ex e) (h3.ex e)
  · obtain ⟨dx, fs, h1, h2, h3⟩ := h; exact .obj (fz_in n h1) h2 (h3.ex e)
theorem se_v {G : Gx} {W : WX} {t : TE} {w : WN} (h : SN G W t w) : SE G W t (wV w) := fun M ρ σ H q eq Q rp hw k th =>
  h M ρ σ H _ eq Q rp hw (fun d ρ' a H' g n _ _ ow qq => k (.val d) ρ' _ H' g (own_r n ow) qq) th
section
variable {G : Gx} {X : Cx} {W : WX} {M : List Addr} {ρ ρ1 : Env} {σ : L2.St} {H H1 : Hp} {e : Expr} {es : List Expr} {pos p : Pos} {wn : WN} {wa : WA} {we : WE}
theorem pxn (h : PXN G X W e wn) : PX G X W e (wV wn) := by
  obtain ⟨t, p, s⟩ := h
  exact ⟨t, p, se_v s⟩
theorem fz_new {l : Addr} {o : HO} (hl : H l = none) : Ex (Fz M H) (Fz (l :: M) (upd H l o)) := fun b u h => by
  obtain ⟨n, e, t⟩ := fz_of3 h
  have ne : b ≠ l := ne_of_none e hl
  refine fz_in (fun z => ?_) (by rw [upd_ne ne]; exact e) t
  rcases List.mem_cons.mp z with q | q
  · exact ne q
  · exact n q
theorem own_step {a l : Addr} {d : D} {o : HO} (hl : H l = none) (h : Own G M H a d) : Own G (l :: M) (upd H l o) a d := by
  have e := fz_new (M := M) (o := o) hl
  have ne : ∀ {u}, H a = some u → upd H l o a = some u := fun h => by rw [upd_ne (ne_of_none h hl)]; exact h
  cases d <;> first | exact h.elim | skip
  · obtain ⟨xs, h1, h2⟩ := h; exact ⟨xs, ne h1, h2.ex e⟩
  · obtain ⟨kvs, h1, h2, h3⟩ := h; exact ⟨kvs, ne h1, h2.ex e, h3.ex e⟩
  · obtain ⟨dx, fs, h1, h2, h3⟩ := h; exact ⟨dx, fs, ne h1, h2, h3.ex e⟩
theorem rep_new (r : Rep G M ρ σ H) {l : Addr} {o : HO} (hl : H l = none) (ht : NoT o := by intro _ z; cases z) : Rep G (l :: M) ρ σ (upd H l o) := by
  refine ⟨r.len, fun i d h => ?_, fun i d h => ?_, r.inj, fun a ha => ?_, r.tab.ext (Ex.new hl), fun p hp => List.mem_cons_of_mem _ (r.tm p hp)⟩
  · obtain ⟨v, h1, h2⟩ := r.fz i d h; exact ⟨v, h1, h2.ex (fz_new hl)⟩
  · obtain ⟨a, h1, h2, h3⟩ := r.ow i d h; exact ⟨a, h1, List.mem_cons_of_mem _ h2, own_step hl h3⟩
  · rcases List.mem_cons.mp ha with rfl | ha
    · exact ⟨o, upd_same, .inl ht⟩
    · obtain ⟨u, hu, t⟩ := r.trk a ha
      exact ⟨u, by rw [upd_ne (ne_of_none hu hl)]; exact hu, t⟩
/-- a new list is laid -/
theorem fin_lst {q : D → Env → Prop} {Q : VK} {ρ' : Env} {H' : Hp} {l : Addr} {xs : List V} {ds : List D} (g : Go G M σ ρ H ρ' H') (h0 : New H l) (hl : H' l = none) (ra : RAll G (Fz M H') xs ds)
    (k : ∀ d ρ' a H', Go G M σ ρ H ρ' H' → a ∉ M → New H a → Rep G (a :: M) ρ' σ H' → Own G (a :: M) H' a d → q d ρ' → Q (.ref a) H') (w : q (.lst ds) ρ') : Q (.ref l) (upd H' l (.lst xs)) :=
  k (.lst ds) ρ' l _ (g.then_ex (Ex.new hl)) (g.rep.new hl) h0 (rep_new g.rep hl) ⟨xs, upd_same, ra.ex (fz_new hl)⟩ w
theorem Go.none (g : Go G M σ ρ H ρ1 H1) {l : Addr} (hl : H1 l = none) (r : Rep G M ρ σ H) : New H l := fun o e t => by
  by_cases s : Seen ρ σ l
  · obtain ⟨o', e'⟩ := g.rep.tr l (r.seenM s)
    rw [e'] at hl; cases hl
  · rw [g.kp l o e s t] at hl; cases hl
/-- what was new is new for what stood before -/
theorem Go.isNew (g : Go G M σ ρ H ρ1 H1) {l : Addr} (hl : New H1 l) (r : Rep G M ρ σ H) : New H l := fun o e t => by
  by_cases s : Seen ρ σ l
  · obtain ⟨i, d, h1, h2⟩ := g.kin.seen.mpr s
    obtain ⟨b, e1, m, w⟩ := g.rep.ow i d h1
    rw [h2] at e1
    cases e1
    obtain ⟨o', e', n', _⟩ := w.pl
    exact hl o' e' n'
  · exact hl o (g.kp l o e s t) t
def nLst (wa : WA) : WN := fun ρ q e => wa ρ (fun ss ρ1 => ValsD ss fun ds => ds.length ≤ sizeLine ∧ q (.lst ds) ρ1) e
theorem pxn_lst (ha : PXA G X W es wa) : PXN G X W (.List es pos) (nLst wa) := by
  obtain ⟨ta, pa, sa⟩ := ha
  refine ⟨_, pe_lst pa, fun M ρ σ H q eq Q rp w k th => sa M ρ σ H _ eq _ rp w (fun ss ρ' vs H' g r1 qq => ?_) th⟩
  obtain ⟨ds, h1, h2, h3⟩ := r1.vals qq
  exact ⟨by rw [h1.len]; exact h2, fun p hp => fin_lst g (g.none hp rp) hp h1 k h3⟩
/-- built-ins that make a list -/
abbrev OpL := List D → (List D → Prop) → Prop
def CallL (G : Gx) (op : OpL) (r : List V → Hp → VK → Prop) : Prop := ∀ M H xs ds k, Trk M H → Args G M H xs ds → op ds k → ∀ Q : VK, (∀ ys l zs, H l = none → RAll G (Fz M H) zs ys → k ys → Q (.ref l) (upd H l (.lst zs))) → r xs H Q
def nCall (op : OpL) (wa : WA) : WN := fun ρ q e => wa ρ (fun ss ρ1 => gets2 ρ1 ss fun ds => op ds fun ys => q (.lst ys) ρ1) e
theorem sn_call {ta : TA} {r : List V → Hp → VK → Prop} {op : OpL} (ha : SA G W ta wa) (ho : CallL G op r) : SN G W (tCB r ta) (nCall op wa) := by
  intro M ρ σ H q eq Q rp w k th
  refine ha M ρ σ H _ eq _ rp w (fun s1 ρ1 xs H1 g1 r1 w1 => ?_) th
  obtain ⟨ds, a1, w3⟩ := RSs.args g1.rep r1 w1
  exact ho M H1 xs ds _ g1.rep.tr a1 w3 Q fun ys l zs hl ra ky => fin_lst g1 (g1.none hl rp) hl ra k ky
theorem pxn_callT {id : String} {x : Str} {r : List V → Hp → VK → Prop} {op : OpL} (hc : CallR X (.type id) r) (ho : CallL G op r) (hg : Gl X x) (hm : X.mg x = none) (hv : bootBuiltins x = some (.type id)) (ha : PXA G X W (e :: es) wa) (hn : x ≠ "__name__" := by decide) (hdb : (x == ("__debug__" : Str)) = false := by decide)
    (he : starEach (e :: es) X.env = (false, eval e X.env) :: starEach es X.env := by rfl) (hpl : (backTo pos (starEach es X.env)).any (·.1) = false := by rfl) : PXN G X W (.Call (.Name x p) (e :: es) [] pos) (nCall op wa) := by
  obtain ⟨ta, pa, sa⟩ := ha
  exact ⟨_, pe_callTy hc hg hm hv pa hn hdb he hpl, sn_call sa ho⟩
theorem pxn_callB {id : String} {x : Str} {r : List V → Hp → VK → Prop} {op : OpL} (hc : CallR X (.builtin id) r) (ho : CallL G op r) (hg : Gl X x) (hm : X.mg x = none) (hv : bootBuiltins x = some (.builtin id)) (ha : PXA G X W (e :: es) wa) (hn : x ≠ "__name__" := by decide) (hdb : (x == ("__debug__" : Str)) = false := by decide)
    (he : starEach (e :: es) X.env = (false, eval e X.env) :: starEach es X.env := by rfl) (hpl : (backTo pos (starEach es X.env)).any (·.1) = false := by rfl) : PXN G X W (.Call (.Name x p) (e :: es) [] pos) (nCall op wa) := by
  obtain ⟨ta, pa, sa⟩ := ha
  exact ⟨_, pe_callB hc hg hm hv pa hn hdb he hpl, sn_call sa ho⟩
def l1 (f : D → (List D → Prop) → Prop) : OpL := fun ds k => match ds with
  | [x] => f x k
  | _ => False
def lToLst (x : D) (k : List D → Prop) : Prop := match x with
  | .lst ds => k ds
  | .sl ds => k ds
  | .tup ds => k ds
  | .str z => z.length ≤ sizeLine ∧ k (z.cps.toList.map sgnD)
  | _ => False
theorem toLst_l : CallL G (l1 lToLst) (rToLst G.K) := by
  intro M H xs ds k t a hk Q q
  unfold l1 at hk
  split at hk
  · obtain ⟨v, rfl, a1⟩ := a.one
    unfold lToLst at hk
    split at hk
    · obtain ⟨p, xs, rfl, e1, e2⟩ := a1.lst
      exact .inl ⟨p, xs, rfl, .inl (SqL.of e1), fun l hl => q _ l _ hl e2 hk⟩
    · obtain ⟨p, xs, rfl, e1, e2⟩ := a1.sl
      exact .inl ⟨p, xs, rfl, .inl e1, fun l hl => q _ l _ hl e2 hk⟩
    · obtain ⟨p, xs, rfl, e1, e2, _⟩ := a1.tup
      exact .inl ⟨p, xs, rfl, .inr e1, fun l hl => q _ l _ hl e2 hk⟩
    · exact .inr ⟨_, by rw [a1.str], hk.1, fun l hl => q _ l _ hl (RAll.sgns _) hk.2⟩
    · exact hk.elim
  · exact hk.elim
structure lSorted (x : D) (k : List D → Prop) : Prop where
  ok : match x with
    | .lst ds => optK (allM D.asS ds) fun xs => xs.length < 64 ∧ ∀ ys : List Str, ys.Perm xs → sortedS ys = true → k (ys.map D.str)
    | _ => False
theorem sorted_l : CallL G (l1 lSorted) (rSortedS G.K) := by
  intro M H xs ds k t a hk Q q
  unfold l1 at hk
  split at hk
  · obtain ⟨v, rfl, a1⟩ := a.one
    obtain ⟨hk⟩ := hk
    split at hk
    · obtain ⟨bs, e, h1, h2⟩ := optK_of hk
      have e2 := allM_map (g := D.str) (fun _ _ => asS_eq) e
      subst e2
      obtain ⟨p, xs, rfl, e1, e2⟩ := a1.lst
      rw [e2.strs_inv] at e1
      exact ⟨p, bs, rfl, SqL.of e1, h1, fun ys l hp hs hl => q _ l _ hl (RAll.of_strs ys) (h2 ys hp hs)⟩
    · exact hk.elim
  · exact hk.elim
/-- xs + ys, xs * n, xs[a:b] of lists -/
def OpNL (G : Gx) (op : D → D → (List D → Prop) → Prop) (r : R2) : Prop := ∀ M H x y d1 d2 k, Trk M H → Arg G M H x d1 → Arg G M H y d2 → op d1 d2 k → ∀ Q : VK, (∀ ys l zs, H l = none → RAll G (Fz M H) zs ys → k ys → Q (.ref l) (upd H l (.lst zs))) → r x y H Q
def nOp (op : D → D → (List D → Prop) → Prop) (wa wb : WE) : WN := fun ρ q e => wa ρ (fun s1 ρ1 => wb ρ1 (fun s2 ρ2 => s1.gets ρ2 fun d1 => s2.gets ρ2 fun d2 => op d1 d2 fun d => q (.lst d) ρ2) e) e
theorem pxn_op {a b : Expr} {wa wb : WE} {f : Operator} {r : R2} {op : D → D → (List D → Prop) → Prop} (hr : OpR X (binaryOp f) r) (ho : OpNL G op r) (ha : PX G X W a wa) (hb : PX G X W b wb) : PXN G X W (.BinOp a f b pos) (nOp op wa wb) := by
  obtain ⟨ta, pa, sa⟩ := ha
  obtain ⟨tb, pb, sb⟩ := hb
  refine ⟨_, pe_op hr pa pb, fun M ρ σ H q eq Q rp w k th => ?_⟩
  refine sa M ρ σ H _ eq _ rp w (fun s1 ρ1 x H1 g1 r1 w1 => ?_) th
  refine sb M ρ1 σ H1 _ eq _ g1.rep w1 (fun s2 ρ2 y H2 g2 r2 w2 => ?_) (th.go g1)
  obtain ⟨d1, a1, w3⟩ := (r1.go g1.rep g2).arg g2.rep w2
  obtain ⟨d2, a2, w4⟩ := r2.arg g2.rep w3
  have g := g1.trans g2
  exact ho M H2 x y d1 d2 _ g2.rep.tr a1 a2 w4 Q fun ys l zs hl ra ky => fin_lst g (g.none hl rp) hl ra k ky
def lAdd (x y : D) (k : List D → Prop) : Prop := match x, y with
  | .lst a, .lst b => a.length + b.length ≤ sizeLine ∧ k (a ++ b)
  | _, _ => False
theorem add_l : OpNL G lAdd rCat := by
  intro M H x y d1 d2 k t a1 a2 h Q q
  unfold lAdd at h
  split at h
  · obtain ⟨p, xs, rfl, h1, h2⟩ := a1.lst
    obtain ⟨p', xs', rfl, h1', h2'⟩ := a2.lst
    exact ⟨p, p', xs, xs', rfl, rfl, h1, h1', by rw [h2.len, h2'.len]; exact h.1, fun l hl => q _ l _ hl (h2.app h2') h.2⟩
  · exact h.elim
def lMul (x y : D) (k : List D → Prop) : Prop := match x, y with
  | .lst ds, .int n => -(2 ^ 63) ≤ n ∧ n < 2 ^ 63 ∧ ds.length * n.toNat ≤ sizeLine ∧ k (List.replicate n.toNat ds).flatten
  | _, _ => False
theorem mul_l : OpNL G lMul rRep := by
  intro M H x y d1 d2 k t a1 a2 h Q q
  unfold lMul at h
  split at h
  · obtain ⟨p, xs, rfl, h1, h2⟩ := a1.lst
    obtain ⟨c1, c2, c3, c4⟩ := h
    exact ⟨p, _, xs, rfl, a2.int, h1, c1, c2, by rw [h2.len]; exact c3, fun l hl => q _ l _ hl (h2.rep _) c4⟩
  · exact h.elim
def nCut (wa : WE) (wl wh : WO) : WN := fun ρ q e => wa ρ (fun s ρ1 => wl ρ1 (fun lo ρ2 => wh ρ2 (fun hi ρ3 => s.gets ρ3 fun d => match d with
  | .lst ds => q (.lst (cutA ds lo hi)) ρ3
  | _ => False) e) e) e
theorem pxn_cut {a : Expr} {p2 : Pos} {wa : WE} {wl wh : WO} {lo hi : Option Expr} (ha : PX G X W a wa) (hl : PXO G X W lo wl) (hh : PXO G X W hi wh) (hK : X.K = G.K := by rfl) : PXN G X W (.Subscript a (.Slice lo hi none p2) pos) (nCut wa wl wh) := by
  obtain ⟨ta, pa, sa⟩ := ha
  obtain ⟨tl, pl, sl⟩ := hl
  obtain ⟨th', ph, sh⟩ := hh
  refine ⟨_, pe_slice sl_list pa pl ph, fun M ρ σ H q eq Q rp w k th => sa M ρ σ H _ eq _ rp w (fun s1 ρ1 x H1 g1 r1 w1 => ?_) th⟩
  refine sl M ρ1 σ H1 _ eq _ g1.rep w1 (fun lo ρ2 H2 g2 w2 => ?_) (th.go g1)
  refine sh M ρ2 σ H2 _ eq _ g2.rep w2 (fun hi ρ3 H3 g3 w3 => ?_) (th.go (g1.trans g2))
  have g := (g1.trans g2).trans g3
  obtain ⟨d, a1, w4⟩ := (r1.go g1.rep (g2.trans g3)).arg g3.rep w3
  rw [hK]
  split at w4
  · obtain ⟨p, xs, rfl, h1, h2⟩ := a1.lst
    exact ⟨p, xs, rfl, SqL.of h1, fun l hl => fin_lst g (g.none hl rp) hl (h2.cut lo hi) k w4⟩
  · exact w4.elim
/-! ### comprehensions -/
def noOw (vs : List Nat) (ρ : Env) : Bool := vs.all fun i => match ρ[i]? with
  | some (.ow _) => false
  | _ => true
theorem noOw_of {vs : List Nat} (h : noOw vs ρ = true) : NoOw vs ρ := fun i hi d z => by
  have := List.all_eq_true.mp h i hi
  rw [z] at this; cases this
/-- the wish of a comprehension's inside: nothing is raised -/
abbrev W0 : WX := fun _ _ _ _ => False
abbrev eq0 : EQ := fun _ _ _ _ => False
theorem thr0 : Thr G M W0 σ ρ H eq0 := fun _ _ _ _ _ _ _ _ z => z
/-- what a comprehension asks, its items known -/
structure LcOk (vs : List Nat) (wg : WG) (wt : WT) (we : WE) (q : D → Env → Prop) (ds : List D) (ρ1 : Env) : Prop where
  ok : noOw vs ρ1 = true ∧ ∃ I : Nat → List D → Env → Prop, I 0 [] (wipeE vs ρ1) ∧
  (∀ i d ys ρ', ds[i]? = some d → I i ys ρ' → ys.length ≤ i → wg d ρ' fun ρ2 => wt ρ2 (fun b ρ3 => if b = true then we ρ3 (fun s ρ4 => s.val' fun y => I (i + 1) (ys ++ [y]) (wipeE vs ρ4)) eq0 else I (i + 1) ys (wipeE vs ρ3)) eq0) ∧
  ds.length ≤ sizeLine ∧ ∀ ys ρ', I ds.length ys ρ' → ys.length ≤ ds.length → q (.lst ys) (backE vs ρ1 ρ')
def nLc (vs : List Nat) (wi : WI) (wg : WG) (wt : WT) (we : WE) : WN := fun ρ q e => wi ρ (fun ds ρ1 => LcOk vs wg wt we q ds ρ1) e
def Pln (H : Hp) (l : Addr) : Prop := ∃ o, H l = some o ∧ NoT o ∧ ∀ f, o ≠ .ext f
theorem pln_lst {l : Addr} {xs : List V} (h : H l = some (.lst xs)) : Pln H l := ⟨_, h, fun _ z => (nomatch z), fun _ z => nomatch z⟩
theorem pln_dK {l : Addr} {xs : List (Key × V)} (h : H l = some (.dK xs)) : Pln H l := ⟨_, h, fun _ z => (nomatch z), fun _ z => nomatch z⟩
theorem Pln.noTab {l : Addr} {T : List (Addr × Str)} (h : Pln H l) (t : LamX.Tabs T H) {p : Addr × Str} (hp : p ∈ T) : p.1 ≠ l := fun z => by
  obtain ⟨ps, e, _⟩ := t p hp
  obtain ⟨o, e1, n, _⟩ := h
  rw [z, e1] at e
  exact n ps (Option.some.inj e)
theorem rep_less {l : Addr} (r : Rep G (l :: M) ρ σ H) (n : ¬ Seen ρ σ l) (hp : Pln H l) : Rep G M ρ σ H := by
  have e : Ex (Fz (l :: M) H) (Fz M H) := fz_anti fun b hb => List.mem_cons_of_mem _ hb
  have oe : ∀ {a d}, Own G (l :: M) H a d → Own G M H a d := fun {a d} h => by
    cases d <;> first | exact h.elim | skip
    · obtain ⟨xs, h1, h2⟩ := h; exact ⟨xs, h1, h2.ex e⟩
    · obtain ⟨kvs, h1, h2, h3⟩ := h; exact ⟨kvs, h1, h2.ex e, h3.ex e⟩
    · obtain ⟨dx, fs, h1, h2, h3⟩ := h; exact ⟨dx, fs, h1, h2, h3.ex e⟩
  refine ⟨r.len, fun i d h => ?_, fun i d h => ?_, r.inj, fun a h => r.trk a (List.mem_cons_of_mem _ h), r.tab, fun p h => (List.mem_cons.mp (r.tm p h)).resolve_left (hp.noTab r.tab h)⟩
  · obtain ⟨v, h1, h2⟩ := r.fz i d h; exact ⟨v, h1, h2.ex e⟩
  · obtain ⟨a, h1, h2, h3⟩ := r.ow i d h
    refine ⟨a, h1, ?_, oe h3⟩
    rcases List.mem_cons.mp h2 with rfl | h2
    · exact (n ⟨i, d, h, h1⟩).elim
    · exact h2
theorem fz_mut {l : Addr} {o : HO} : Fz (l :: M) (upd H l o) = Fz (l :: M) H := by
  funext b
  unfold Fz
  by_cases h : b ∈ l :: M
  · rw [if_pos h, if_pos h]
  · rw [if_neg h, if_neg h, upd_ne (fun z => h (by rw [z]; exact List.mem_cons_self))]
theorem own_mut {a l : Addr} {d : D} {o : HO} (ne : a ≠ l) (h : Own G (l :: M) H a d) : Own G (l :: M) (upd H l o) a d := by
  cases d <;> first | exact h.elim | skip
  · obtain ⟨xs, h1, h2⟩ := h; exact ⟨xs, by rw [upd_ne ne]; exact h1, by rw [fz_mut]; exact h2⟩
  · obtain ⟨kvs, h1, h2, h3⟩ := h; exact ⟨kvs, by rw [upd_ne ne]; exact h1, by rw [fz_mut]; exact h2, by rw [fz_mut]; exact h3⟩
  · obtain ⟨dx, fs, h1, h2, h3⟩ := h; exact ⟨dx, fs, by rw [upd_ne ne]; exact h1, h2, by rw [fz_mut]; exact h3⟩
theorem rep_mut {l : Addr} {o : HO} (r : Rep G (l :: M) ρ σ H) (n : ¬ Seen ρ σ l) (hp : Pln H l) (ht : NoT o := by intro _ z; cases z) : Rep G (l :: M) ρ σ (upd H l o) := by
  refine ⟨r.len, fun i d h => ?_, fun i d h => ?_, r.inj, fun a ha => ?_, by obtain ⟨o0, e0, n1, n2⟩ := hp; exact tabs_upd r.tab e0 n1 n2, r.tm⟩
  · obtain ⟨v, h1, h2⟩ := r.fz i d h; exact ⟨v, h1, by rw [fz_mut]; exact h2⟩
  · obtain ⟨a, h1, h2, h3⟩ := r.ow i d h; exact ⟨a, h1, h2, own_mut (fun z => n ⟨i, d, h, by rw [← z]; exact h1⟩) h3⟩
  · by_cases e : a = l
    · rw [e]; exact ⟨o, upd_same, .inl ht⟩
    · obtain ⟨u, hu, t⟩ := r.trk a ha
      exact ⟨u, by rw [upd_ne e]; exact hu, t⟩
theorem sn_lc {ti : TI} {tg : TG} {tt : TT} {te : TE} {is vs : List Nat} {wi : WI} {wg : WG} {wt : WT} (his : ∀ i ∈ is, i ∈ vs) (hi : SI G W ti wi) (hg : SG G is tg wg) (ht : STt G W0 tt wt) (he : SE G W0 te we) : SN G W (tLc ti tg tt te vs) (nLc vs wi wg wt we) := by
  intro M ρ σ H q eq Q rp w k th
  refine hi M ρ σ H _ eq _ rp w (fun ds ρ1 H1 J g F ⟨no, I, h0, turn, hsz, fin⟩ => ?_) th
  intro L hL
  have nL : L ∉ M := g.rep.new hL
  have rN := rep_new (o := .lst []) g.rep hL
  have nS : ¬ Seen ρ1 σ L := fun z => nL (g.rep.seenM z)
  have no' := noOw_of no
  -- seen within is seen without
  have sub : ∀ {ρ' : Env}, Kin (wipeE vs ρ1) ρ' → ∀ a, Seen ρ' (wipe σ vs) a → Seen ρ1 σ a := fun {ρ'} kn a z => by
    obtain ⟨i, d, h1, h2⟩ := kn.seen.mp z
    rw [wipeE_get] at h1
    rw [wipe_get] at h2
    split at h1
    · cases h1
    · split at h2
      · cases h2
      · exact ⟨i, d, h1, h2⟩
  have fzL : ∀ {H' : Hp}, Keep (Seen ρ1 σ) H1 H' → Ex (Fz M H1) (Fz (L :: M) H') := fun {H'} kp b o h => by
    obtain ⟨n, e, t⟩ := fz_of3 h
    refine fz_in (fun z => ?_) (kp b o e (fun z => n (g.rep.seenM z)) t) t
    rcases List.mem_cons.mp z with z | z
    · rw [z, hL] at e; cases e
    · exact n z
  refine ⟨fun i m H => ∃ ρ' ys xs, Rep G (L :: M) ρ' (wipe σ vs) H ∧ Kin (wipeE vs ρ1) ρ' ∧ Keep (Seen ρ1 σ) H1 H ∧ H L = some (.lst xs) ∧ RAll G (Fz (L :: M) H) xs ys ∧ I i ys ρ' ∧ ys.length ≤ i ∧ i ≤ ds.length ∧ m = ds.length - i,
    ⟨_, wipeE vs ρ1, [], [], rep_wipe rN, .refl _, .of_ex (Ex.new hL), upd_same, .nil, h0, Nat.le_refl _, Nat.zero_le _, rfl⟩, ?_⟩
  rintro i m H2 ⟨ρ', ys, xs, r2, kn, kp, hx, ra, hI, hy, hi', rfl⟩
  have nS2 : ¬ Seen ρ' (wipe σ vs) L := fun z => nS (sub kn L z)
  by_cases hlt : i < ds.length
  · refine .inr ⟨F.go i (L :: M) H2 (fzL kp) hlt, fun H => ∃ ρ' ys xs, Rep G (L :: M) ρ' (wipe σ vs) H ∧ Kin (wipeE vs ρ1) ρ' ∧ Keep (Seen ρ1 σ) H1 H ∧ H L = some (.lst xs) ∧ RAll G (Fz (L :: M) H) xs ys ∧ I (i + 1) ys ρ' ∧ ys.length ≤ i + 1,
      fun H' ⟨ρ', ys, xs, a, b, c, d, e, f, g⟩ => ⟨_, by omega, ρ', ys, xs, a, b, c, d, e, f, g, hlt, rfl⟩, fun x H3 hyl => ?_⟩
    obtain ⟨e3, d, hd, rd⟩ := F.yld i (L :: M) H2 x H3 (fzL kp) r2.tr hlt hyl
    refine hg (L :: M) ρ' (wipe σ vs) H3 x d _ _ (r2.ex e3) rd (turn i d ys ρ' hd hI hy) fun ρ4 σ4 H4 r4 e4 d4 w4 => ?_
    have e34 := e3.trans e4
    have hw : wipe σ4 vs = wipe σ vs := by
      apply List.ext_getElem?
      intro j
      rw [wipe_get, wipe_get]
      have hl : σ4.length = σ.length := by rw [d4.len, wipe_length]
      by_cases hj : j ∈ vs
      · rw [hl]
        by_cases hjl : j < σ.length
        · rw [if_pos ⟨hj, hjl⟩, if_pos ⟨hj, hjl⟩]
        · rw [if_neg (fun z => hjl z.2), if_neg (fun z => hjl z.2), List.getElem?_eq_none (by omega), List.getElem?_eq_none (by omega)]
      · rw [if_neg (fun z => hj z.1), if_neg (fun z => hj z.1), (d4.out j fun z => hj (his j z)).2, wipe_get, if_neg (fun z => hj z.1)]
    refine ⟨hw, ?_⟩
    have nS4 : ∀ a, Seen ρ4 σ4 a → Seen ρ1 σ a := fun a z => sub kn a (d4.seen z)
    have kin4 : Kin (wipeE vs ρ1) (wipeE vs ρ4) := by
      intro n
      have e1 : ρ4.length = ρ1.length := by rw [r4.len, d4.len, wipe_length, g.rep.len]
      rw [wipeE_get, wipeE_get, e1]
      by_cases hn : n ∈ vs ∧ n < ρ1.length
      · rw [if_pos hn, if_pos hn]; exact .inl rfl
      · rw [if_neg hn, if_neg hn]
        by_cases hv : n ∈ vs
        · have : ρ1.length ≤ n := Nat.le_of_not_lt fun z => hn ⟨hv, z⟩
          rw [List.getElem?_eq_none (by omega), List.getElem?_eq_none (by omega)]; exact .inl rfl
        · rw [(d4.out n fun z => hv (his n z)).1]
          have := kn n
          rw [wipeE_get, if_neg hn] at this
          exact this
    have wrap : ∀ {ρ5 : Env}, Kin ρ4 ρ5 → Kin (wipeE vs ρ1) (wipeE vs ρ5) := fun {ρ5} k5 => kin4.trans fun n => by
      have e1 : ρ5.length = ρ4.length := by
        have h1 : ∀ n, ρ5[n]? = none ↔ ρ4[n]? = none := fun n => by
          rcases k5 n with z | ⟨d, d', z1, z2⟩
          · rw [z]
          · rw [z1, z2]; simp
        have a1 := (h1 ρ4.length).mpr (List.getElem?_eq_none (Nat.le_refl _))
        have a2 := (h1 ρ5.length).mp (List.getElem?_eq_none (Nat.le_refl _))
        have b1 := List.getElem?_eq_none_iff.mp a1
        have b2 := List.getElem?_eq_none_iff.mp a2
        omega
      rw [wipeE_get, wipeE_get, e1]
      split
      · exact .inl rfl
      · exact k5 n
    refine ht (L :: M) ρ4 σ4 H4 _ _ _ r4 w4 (fun b ρ5 H5 g5 w5 => ?_) thr0
    have kp5 : Keep (Seen ρ1 σ) H1 H5 := (kp.trans (.of_ex e34)).trans fun b o e n t => g5.kp b o e (fun z => n (nS4 b z)) t
    have x5 : H5 L = some (.lst xs) := g5.kp _ _ (e34 _ _ hx) (fun z => nS (nS4 L z)) noT_lst
    have f25 : Ex (Fz (L :: M) H2) (Fz (L :: M) H5) := (fz_step e34).trans (g5.fz r4)
    cases b with
    | false =>
      rw [if_neg Bool.false_ne_true] at w5 ⊢
      refine ⟨wipeE vs ρ5, ys, xs, ?_, wrap g5.kin, kp5, x5, ra.ex f25, w5, by omega⟩
      rw [← hw]
      exact rep_wipe g5.rep
    | true =>
      rw [if_pos rfl] at w5 ⊢
      refine he (L :: M) ρ5 σ4 H5 _ _ _ g5.rep w5 (fun s ρ6 v H6 g6 rs w6 => ?_) thr0
      obtain ⟨y, ry, w7⟩ := rs.val' w6
      have g56 := g5.trans g6
      have x6 : H6 L = some (.lst xs) := g6.kp _ _ x5 (fun z => nS (nS4 L (g5.kin.seen.mp z))) noT_lst
      have kp6 : Keep (Seen ρ1 σ) H1 H6 := kp5.trans fun b o e n t => g6.kp b o e (fun z => n (nS4 b (g5.kin.seen.mp z))) t
      have ra6 := (ra.ex f25).ex (g6.fz g5.rep)
      refine ⟨xs, x6, by rw [ra.len]; omega, wipeE vs ρ6, ys ++ [y], xs ++ [v], ?_, wrap g56.kin, fun b o e n t => ?_, upd_same, ?_, w7, by rw [List.length_append]; simp; omega⟩
      · rw [← hw]
        refine rep_mut (rep_wipe g6.rep) (fun z => nS (nS4 L (g56.kin.seen.mp ?_))) (pln_lst x6) noT_lst
        obtain ⟨n, d, h1, h2⟩ := z
        rw [wipeE_get] at h1
        rw [wipe_get] at h2
        split at h1
        · cases h1
        · split at h2
          · cases h2
          · exact ⟨n, d, h1, h2⟩
      · rw [upd_ne (ne_of_none e hL)]
        exact kp6 b o e n t
      · rw [fz_mut]
        exact ra6.app (.cons ry .nil)
  · have e2 : i = ds.length := by omega
    subst e2
    refine .inl ⟨F.stop (L :: M) H2 (fzL kp), ?_⟩
    have rM := rep_less r2 nS2 (pln_lst hx)
    have gg := go_wipe g.rep no' rM kn kp
    have gL : Go G (L :: M) σ ρ1 (upd H1 L (.lst xs)) (backE vs ρ1 ρ') H2 := go_wipe (rep_new g.rep hL) no' r2 kn fun b o e n t => by
      by_cases z : b = L
      · rw [z, upd_same] at e
        rw [z, hx]; exact e
      · rw [upd_ne z] at e; exact kp b o e n t
    exact k (.lst ys) _ L H2 (g.trans gg) nL (g.none hL rp) gL.rep ⟨xs, hx, ra⟩ (fin ys ρ' hI hy)
section
variable {elt tg iter : Expr} {scope : Scope} {own : List (Str × Nat)} {is : List Nat} {wi : WI} {wg : WG} {wt : WT}
/-- the tests of a comprehension -/
structure PXTs (G : Gx) (X : Cx) (ifs : List Expr) (w : WT) : Prop where
  ex : ∃ t, PTs X ifs t ∧ STt G W0 t w
def wYes : WT := fun ρ q _ => q true ρ
theorem pxts_nil : PXTs G X [] wYes := ⟨_, pts_nil, fun M ρ σ H q eq Q r w k _ => k true ρ H (.refl r) w⟩
theorem pxts_one {c : Expr} (h : PXT G X W0 c wt) : PXTs G X [c] wt := by
  obtain ⟨t, p, s⟩ := h
  exact ⟨_, pts_one p, s⟩
theorem PTs.imp {ifs : List Expr} {t t' : TT} (h : PTs X ifs t) (k : ∀ σ H Q, t' σ H Q → t σ H Q) : PTs X ifs t' := ⟨fun pins s σ H Q I w => h.run pins s σ H Q I (k σ H Q w)⟩
theorem PXTs.can {ifs : List Expr} (h : PXTs G X ifs wt) : PTs X ifs (tOfT G W0 wt) := by
  obtain ⟨t, p, s⟩ := h
  exact PTs.imp p fun σ H Q ⟨M, ρ, q, eq, a, b, c, d⟩ => s M ρ σ H q eq Q a b c d
theorem pxn_lc {ifs : List Expr} (his : ∀ i ∈ is, i ∈ own.map (·.2) := by decide) (hc : X.calm = true) (hN : X.N.Nodup) (hi : PXI G X W tg iter wi) (ok : BlkOk X.N X.env.scope scope own)
    (hg : ∀ (s : Shared) (H : Hp) (C : Addr) (cl : List (Str × Addr)) (fp : List Addr), PXG G (X.blk s H scope (compEnvC scope cl C X.env) fp) is tg wg)
    (ht : ∀ (s : Shared) (H : Hp) (C : Addr) (cl : List (Str × Addr)) (fp : List Addr), PXTs G (X.blk s H scope (compEnvC scope cl C X.env) fp) ifs wt)
    (he : ∀ (s : Shared) (H : Hp) (C : Addr) (cl : List (Str × Addr)) (fp : List Addr), PX G (X.blk s H scope (compEnvC scope cl C X.env) fp) W0 elt we) (hs : ∀ x, foldedSetIterable iter X.env x = pure x := by intro _; rfl) :
    PXN G X W (.ListComp elt [⟨tg, iter, ifs, 0⟩] scope pos) (nLc (own.map (·.2)) wi wg wt we) := by
  obtain ⟨ti, pi, si⟩ := hi
  exact ⟨_, pe_lc hc hN pi ok (fun s H C cl fp => (hg s H C cl fp).can) (fun s H C cl fp => (ht s H C cl fp).can) (fun s H C cl fp => (he s H C cl fp).can) hs, sn_lc his si (sg_of _ _ _) (st_of _ _ _) (se_of _ _ _)⟩
end
/-! ### names that hold a container of their own -/
section
variable {c : Cxt} {i : Nat} {x : Str} {pos' : Pos}
theorem RepS.own_set {v : Addr} {d : D} (r : RepS G c M ρ σ H) (n : v ∉ M) (rp : Rep G (v :: M) ρ σ H) (ow : Own G (v :: M) H v d) (h0 : New c.H0 v) (hp : i ∉ c.pins) (hi : i < σ.length) (hfr : ∀ f ∈ c.frs, Ex (Fz f.1 f.2) (Fz (v :: M) H)) :
    RepS G c (v :: M) (List.set ρ i (Cell.ow d)) (List.set σ i (some (V.ref v))) H := by
  have hi' : i < ρ.length := by rw [rp.len]; exact hi
  have g1 : ∀ j : Nat, (List.set ρ i (Cell.ow d))[j]? = if j = i then some (Cell.ow d) else ρ[j]? := fun j => by
    rw [List.getElem?_set]
    by_cases h : i = j
    · rw [if_pos h, if_pos h.symm, if_pos (by omega)]
    · rw [if_neg h, if_neg (Ne.symm h)]
  have g2 : ∀ j : Nat, (List.set σ i (some (V.ref v)))[j]? = if j = i then some (some (V.ref v)) else σ[j]? := fun j => by
    rw [List.getElem?_set]
    by_cases h : i = j
    · rw [if_pos h, if_pos h.symm, if_pos (by omega)]
    · rw [if_neg h, if_neg (Ne.symm h)]
  have nv : ∀ (j : Nat) (d' : D), ρ[j]? = some (.ow d') → σ[j]? ≠ some (some (.ref v)) := fun j d' h z => by
    obtain ⟨a, e, m, _⟩ := r.rep.ow j d' h
    rw [z] at e; cases e
    exact n m
  refine ⟨⟨by rw [List.length_set, List.length_set, rp.len], fun j d' h => ?_, fun j d' h => ?_, fun j k a d1 d2 h1 h2 h3 h4 => ?_, rp.trk, rp.tab, rp.tm⟩, fun a h => List.mem_cons_of_mem _ (r.sub a h), r.kp, fun a h => ?_, fun j hj => ?_, r.old, fun a h => ?_, r.tT, hfr⟩
  · rw [g1] at h
    rw [g2]
    split at h
    · cases h
    · rename_i hj
      rw [if_neg hj]
      exact rp.fz j d' h
  · rw [g1] at h
    rw [g2]
    split at h
    · rename_i hj
      cases h
      rw [if_pos hj]
      exact ⟨v, rfl, List.mem_cons_self, ow⟩
    · rename_i hj
      rw [if_neg hj]
      exact rp.ow j d' h
  · rw [g1] at h1 h2
    rw [g2] at h3 h4
    by_cases e1 : j = i
    · by_cases e2 : k = i
      · rw [e1, e2]
      · rw [if_pos e1] at h3
        cases h3
        rw [if_neg e2] at h2 h4
        exact (nv k d2 h2 h4).elim
    · by_cases e2 : k = i
      · rw [if_pos e2] at h4
        cases h4
        rw [if_neg e1] at h1 h3
        exact (nv j d1 h1 h3).elim
      · rw [if_neg e1] at h1 h3
        rw [if_neg e2] at h2 h4
        exact rp.inj j k a d1 d2 h1 h2 h3 h4
  · obtain ⟨j, d', h1, h2⟩ := h
    rw [g1] at h1
    rw [g2] at h2
    split at h1
    · rename_i hj
      rw [if_pos hj] at h2
      cases h2
      exact .inr h0
    · rename_i hj
      rw [if_neg hj] at h2
      exact r.own a ⟨j, d', h1, h2⟩
  · rw [g1, g2]
    have hj' : j ≠ i := fun e => hp (by rw [← e]; exact hj)
    rw [if_neg hj', if_neg hj']
    exact r.pin j hj
  · rcases List.mem_cons.mp h with rfl | h
    · exact .inr h0
    · exact r.new a h
def wSetN (i : Nat) (wn : WN) : WS := fun P ρ => wn ρ (fun d ρ1 => i ∉ P.pins ∧ i < ρ1.length ∧ P.nx (List.set ρ1 i (Cell.ow d))) P.ex
theorem ss_setN {te : TE} (he : SN G W te wn) : SS G W (tAsg te (gName i)) (wSetN i wn) := by
  intro c M ρ σ H Z P r w k
  refine he M ρ σ H _ _ _ r.rep w (fun d ρ1 a H1 g n h0 rp ow q => ?_) (k.thr r)
  have r1 := r.go g
  have hc0 : New c.H0 a := r.old a h0
  refine k.nx (a :: M) _ _ _ (r1.own_set n rp ow hc0 (by rw [← k.pins]; exact q.1) (by rw [← rp.len]; exact q.2.1) fun f hf => ?_) q.2.2
  refine (r.fr f hf).trans fun b o h => ?_
  obtain ⟨nb, e, t⟩ := fz_of3 h
  refine fz_in (fun z => ?_) (g.kp b o e (fun z => nb (r.rep.seenM z)) t) t
  rcases List.mem_cons.mp z with z | z
  · rw [z] at e; exact h0 o e t
  · exact nb z
theorem py_setN (i : Nat) (hN : X.N.Nodup) (hi : X.N[i]? = some x) (hx : Loc X.env.scope x) (he : PXN G X W e wn) (hs : swapsWith e (some (.Name x pos')) pos.line X.env = pure false := by rfl)
    (hf : X.fn x = true ∨ X.env.scope.names.lookup x = some .local := by first | exact .inl rfl | exact .inr rfl | assumption) : PY G X W (.Assign [.Name x pos'] e pos) (wSetN i wn) := by
  obtain ⟨te, pe, se⟩ := he
  exact ⟨_, ps_set hN hi hx pe hs hf, ss_setN se⟩
/-- a comprehension given to a name, on one line -/
theorem py_setLc (i : Nat) {elt tg iter : Expr} {scope : Scope} {own : List (Str × Nat)} {is : List Nat} {wi : WI} {wg : WG} {wt : WT} {ifs : List Expr} {py : Pos} (his : ∀ i ∈ is, i ∈ own.map (·.2) := by decide) (hc : X.calm = true) (hN : X.N.Nodup) (hy : X.N[i]? = some x) (hyl : X.env.scope.names.lookup x = some .local)
    (hsw : swapsWith (.ListComp elt [⟨tg, iter, ifs, 0⟩] scope p) (some (.Name x py)) pos.line X.env = pure true) (hi : PXI G X W tg iter wi) (ok : BlkOk X.N X.env.scope scope own)
    (hg : ∀ (s : Shared) (H : Hp) (C : Addr) (cl : List (Str × Addr)) (fp : List Addr), PXG G (X.blk s H scope (compEnvC scope cl C X.env) fp) is tg wg)
    (ht : ∀ (s : Shared) (H : Hp) (C : Addr) (cl : List (Str × Addr)) (fp : List Addr), PXTs G (X.blk s H scope (compEnvC scope cl C X.env) fp) ifs wt)
    (he : ∀ (s : Shared) (H : Hp) (C : Addr) (cl : List (Str × Addr)) (fp : List Addr), PX G (X.blk s H scope (compEnvC scope cl C X.env) fp) W0 elt we) (hs : ∀ x, foldedSetIterable iter X.env x = pure x := by intro _; rfl) :
    PY G X W (.Assign [.Name x py] (.ListComp elt [⟨tg, iter, ifs, 0⟩] scope p) pos) (wAsg [i] (wV (nLc (own.map (·.2)) wi wg wt we)) (wgName i)) := by
  obtain ⟨ti, pi, si⟩ := hi
  refine ⟨_, ps_setLc hc hN hy hyl hsw pi ok (fun s H C cl fp => (hg s H C cl fp).can) (fun s H C cl fp => (ht s H C cl fp).can) (fun s H C cl fp => (he s H C cl fp).can) hs, ?_⟩
  exact ss_asg (se_v (sn_lc his si (sg_of _ _ _) (st_of _ _ _) (se_of _ _ _))) fun M ρ σ H v d Q k r rd w q => q _ _ H (rep_set r rd) (Ex.refl _) diff_set w
theorem py_setLcN (i : Nat) {elt tg iter : Expr} {scope : Scope} {own : List (Str × Nat)} {is : List Nat} {wi : WI} {wg : WG} {wt : WT} {ifs : List Expr} {py : Pos} (his : ∀ i ∈ is, i ∈ own.map (·.2) := by decide) (hc : X.calm = true) (hN : X.N.Nodup) (hy : X.N[i]? = some x) (hyl : X.env.scope.names.lookup x = some .local)
    (hsw : swapsWith (.ListComp elt [⟨tg, iter, ifs, 0⟩] scope p) (some (.Name x py)) pos.line X.env = pure true) (hi : PXI G X W tg iter wi) (ok : BlkOk X.N X.env.scope scope own)
    (hg : ∀ (s : Shared) (H : Hp) (C : Addr) (cl : List (Str × Addr)) (fp : List Addr), PXG G (X.blk s H scope (compEnvC scope cl C X.env) fp) is tg wg)
    (ht : ∀ (s : Shared) (H : Hp) (C : Addr) (cl : List (Str × Addr)) (fp : List Addr), PXTs G (X.blk s H scope (compEnvC scope cl C X.env) fp) ifs wt)
    (he : ∀ (s : Shared) (H : Hp) (C : Addr) (cl : List (Str × Addr)) (fp : List Addr), PX G (X.blk s H scope (compEnvC scope cl C X.env) fp) W0 elt we) (hs : ∀ x, foldedSetIterable iter X.env x = pure x := by intro _; rfl) :
    PY G X W (.Assign [.Name x py] (.ListComp elt [⟨tg, iter, ifs, 0⟩] scope p) pos) (wSetN i (nLc (own.map (·.2)) wi wg wt we)) := by
  obtain ⟨ti, pi, si⟩ := hi
  exact ⟨_, ps_setLc hc hN hy hyl hsw pi ok (fun s H C cl fp => (hg s H C cl fp).can) (fun s H C cl fp => (ht s H C cl fp).can) (fun s H C cl fp => (he s H C cl fp).can) hs, ss_setN (sn_lc his si (sg_of _ _ _) (st_of _ _ _) (se_of _ _ _))⟩
end
end
end Pu
/-! ### the pure layer: what is owned is changed; defs -/
namespace Pu
open PySem PySem.Spec PyProof.Rows L2 Lk Evl
section
variable {G : Gx} {X : Cx} {W : WX} {M : List Addr} {ρ ρ1 : Env} {σ : L2.St} {H H1 : Hp} {e : Expr} {es : List Expr} {pos p : Pos} {wn : WN} {wa : WA} {we : WE}
theorem fz_upd {a : Addr} {o : HO} (m : a ∈ M) : Fz M (upd H a o) = Fz M H := by
  funext b
  unfold Fz
  by_cases h : b ∈ M
  · rw [if_pos h, if_pos h]
  · rw [if_neg h, if_neg h, upd_ne (fun z => h (by rw [z]; exact m))]
theorem own_upd {a b : Addr} {d : D} {o : HO} (m : b ∈ M) (ne : a ≠ b) (h : Own G M H a d) : Own G M (upd H b o) a d := by
  cases d <;> first | exact h.elim | skip
  · obtain ⟨xs, h1, h2⟩ := h; exact ⟨xs, by rw [upd_ne ne]; exact h1, by rw [fz_upd m]; exact h2⟩
  · obtain ⟨kvs, h1, h2, h3⟩ := h; exact ⟨kvs, by rw [upd_ne ne]; exact h1, by rw [fz_upd m]; exact h2, by rw [fz_upd m]; exact h3⟩
  · obtain ⟨dx, fs, h1, h2, h3⟩ := h; exact ⟨dx, fs, by rw [upd_ne ne]; exact h1, h2, by rw [fz_upd m]; exact h3⟩
theorem set_get {α : Type} {l : List α} {i : Nat} {x y : α} (h : l[i]? = some x) (j : Nat) : (l.set i y)[j]? = if j = i then some y else l[j]? := by
  have hi : i < l.length := (List.getElem?_eq_some_iff.mp h).1
  rw [List.getElem?_set]
  by_cases e : i = j
  · rw [if_pos e, if_pos e.symm, if_pos (by omega)]
  · rw [if_neg e, if_neg (Ne.symm e)]
/-- what slot i owns turns -/
theorem go_upd (r : Rep G M ρ σ H) {i : Nat} {a : Addr} {d d' : D} {o : HO} (hi : ρ[i]? = some (.ow d)) (ha : σ[i]? = some (some (.ref a))) (m : a ∈ M) (ow : Own G M (upd H a o) a d') : Go G M σ ρ H (List.set ρ i (Cell.ow d')) (upd H a o) := by
  have g := fun j => set_get (y := Cell.ow d') hi j
  refine ⟨⟨by rw [List.length_set, r.len], fun j e h => ?_, fun j e h => ?_, fun j k b d1 d2 h1 h2 h3 h4 => ?_, fun b hb => ?_, ?_, r.tm⟩, fun j => ?_, fun b u hb n t => ?_⟩
  · rw [g] at h
    split at h
    · cases h
    · obtain ⟨v, h1, h2⟩ := r.fz j e h; exact ⟨v, h1, by rw [fz_upd m]; exact h2⟩
  · rw [g] at h
    split at h
    · rename_i hj; cases h; rw [hj]; exact ⟨a, ha, m, ow⟩
    · rename_i hj
      obtain ⟨b, h1, h2, h3⟩ := r.ow j e h
      exact ⟨b, h1, h2, own_upd m (fun z => hj (r.inj j i a e d h hi (by rw [← z]; exact h1) ha)) h3⟩
  · have old : ∀ {n : Nat} {dd : D}, (List.set ρ i (Cell.ow d'))[n]? = some (.ow dd) → ∃ d0, ρ[n]? = some (.ow d0) := fun {n dd} h => by
      rw [g] at h
      split at h
      · rename_i hn; rw [hn]; exact ⟨d, hi⟩
      · exact ⟨dd, h⟩
    obtain ⟨e1, q1⟩ := old h1
    obtain ⟨e2, q2⟩ := old h2
    exact r.inj j k b e1 e2 q1 q2 h3 h4
  · by_cases e : b = a
    · rw [e]
      obtain ⟨o1, e1, n1, _⟩ := ow.pl
      exact ⟨o1, e1, .inl n1⟩
    · obtain ⟨u, hu, t⟩ := r.trk b hb; exact ⟨u, by rw [upd_ne e]; exact hu, t⟩
  · obtain ⟨b, hb, _, w⟩ := r.ow i d hi
    rw [ha] at hb
    cases hb
    obtain ⟨o0, e0, n1, n2⟩ := w.pl
    exact tabs_upd r.tab e0 n1 n2
  · rw [g]
    split
    · rename_i hj; rw [hj]; exact .inr ⟨d, d', hi, rfl⟩
    · exact .inl rfl
  · exact by rw [upd_ne (fun z => n ⟨i, d, hi, by rw [z]; exact ha⟩)]; exact hb
/-- a list of one's own changed by a method with one value: what it is then, what it gives -/
abbrev LM := List D → D → (List D → D → Prop) → Prop
def wLm (i : Nat) (op : LM) (we : WE) : WE := fun ρ q e => match ρ[i]? with
  | some (.ow (.lst _)) => we ρ (fun s ρ1 => s.val' fun y => match ρ1[i]? with
    | some (.ow (.lst ds)) => op ds y fun ds' d => q (.val d) (List.set ρ1 i (Cell.ow (.lst ds')))
    | _ => False) e
  | _ => False
def LmS (G : Gx) (op : LM) (r : V → List V → Hp → VK → Prop) : Prop := ∀ M H l xs ds v y k, H l = some (.lst xs) → RAll G (Fz M H) xs ds → R G (Fz M H) v y → op ds y k → ∀ Q : VK,
  (∀ xs' ds' u d, RAll G (Fz M H) xs' ds' → R G (Fz M H) u d → k ds' d → Q u (upd H l (.lst xs'))) → r (.ref l) [v] H Q
theorem px_lm (i : Nat) {x : Str} {p1 apos cpos : Pos} {name : Str} {id : String} {op : LM} {r : V → List V → Hp → VK → Prop} (slot : Slot "list" name id) (hty : typeOf (.builtin id) = pure (.type "method_descriptor")) (hm : MtR X id r) (hs : LmS G op r)
    (hv : PE X (.Name x p1) (tVar i)) (ha : PX G X W e we) (h1 : attributeBase (.Name x p1) name X.env (eval (.Name x p1) X.env) = eval (.Name x p1) X.env := by rfl) (h2 : Few X e [] cpos := by rfl)
    (h3 : (apos.endLine == cpos.line) = true := by rfl) (h4 : starEach [e] X.env = (false, eval e X.env) :: starEach [] X.env := by rfl) (h5 : (backTo cpos (starEach [] X.env)).any (·.1) = false := by rfl) (hK : X.K = G.K := by rfl) :
    PX G X W (.Call (.Attribute (.Name x p1) name apos) [e] [] cpos) (wLm i op we) := by
  obtain ⟨te, pe, se⟩ := ha
  refine ⟨_, pe_bmK (K := G.K) PySem.F.plainAttrs_list slot hty hm hv (pa_cons pe pa_nil h4) h1 h2 h3 h4 h5 hK, fun M ρ σ H q eq Q rp w k th => ?_⟩
  unfold wLm at w
  split at w
  · rename_i ds0 hi
    obtain ⟨a, ha, m, xs0, hx0, _⟩ := rp.ow i _ hi
    refine ⟨_, ha, .inl ⟨rfl, xs0, SqL.of hx0⟩, se M ρ σ H _ eq _ rp w (fun s ρ1 v H1 g rs w1 => ?_) th⟩
    obtain ⟨y, ry, w2⟩ := rs.val' w1
    split at w2
    · rename_i ds hd
      obtain ⟨a', ha', m', xs, hx, hr⟩ := g.rep.ow i _ hd
      rw [ha] at ha'; cases ha'
      refine hs M H1 a xs ds v y _ hx hr ry w2 Q fun xs' ds' u d h1 h2 h3 => ?_
      have gu := go_upd g.rep hd ha m (d' := .lst ds') (o := .lst xs') ⟨_, upd_same, by rw [fz_upd m]; exact h1⟩
      refine k (.val d) _ _ _ (g.trans gu) ?_ h3
      show R G (Fz M _) u d
      rw [fz_upd m]; exact h2
    · exact w2.elim
  · exact w.elim
def mAppend : LM := fun ds y k => ds.length < sizeLine ∧ k (ds ++ [y]) .non
theorem append_m : LmS G mAppend (rAppend) := by
  intro M H l xs ds v y k hx hr ry h Q q
  exact ⟨l, xs, v, rfl, rfl, hx, by rw [hr.len]; exact h.1, q _ _ _ _ (hr.app (.cons ry .nil)) R.non h.2⟩
def mExtend : LM := fun ds y k => match y with
  | .lst es => ds.length + es.length ≤ sizeLine ∧ k (ds ++ es) .non
  | _ => False
theorem extend_m : LmS G mExtend rExtend := by
  intro M H l xs ds v y k hx hr ry h Q q
  unfold mExtend at h
  split at h
  · obtain ⟨b, zs, rfl, h1, h2⟩ := ry.lst_inv
    exact ⟨l, b, xs, zs, rfl, rfl, hx, fz_ex _ _ _ _ h1, by rw [hr.len, h2.len]; exact h.1, q _ _ _ _ (hr.app h2) R.non h.2⟩
  · exact h.elim
def wLm0 (i : Nat) (op : List D → (List D → D → Prop) → Prop) : WE := fun ρ q _ => match ρ[i]? with
  | some (.ow (.lst ds)) => op ds fun ds' d => q (.val d) (List.set ρ i (Cell.ow (.lst ds')))
  | _ => False
theorem px_pop (i : Nat) {x : Str} {p1 apos cpos : Pos} (hv : PE X (.Name x p1) (tVar i)) (h1 : attributeBase (.Name x p1) "pop" X.env (eval (.Name x p1) X.env) = eval (.Name x p1) X.env := by rfl)
    (h3 : (apos.endLine == cpos.line) = true := by rfl) (hK : X.K = G.K := by rfl) :
    PX G X W (.Call (.Attribute (.Name x p1) "pop" apos) [] [] cpos) (wLm0 i fun ds k => ∃ y, ds[ds.length - 1]? = some y ∧ k ds.dropLast y) := by
  refine ⟨_, pe_bm0K (K := G.K) PySem.F.plainAttrs_list PySem.F.slot_list_pop PySem.F.type_list_pop mt_pop hv h1 h3 hK, fun M ρ σ H q eq Q rp w k th => ?_⟩
  unfold wLm0 at w
  split at w
  · rename_i ds hi
    obtain ⟨a, ha, m, xs, hx, hr⟩ := rp.ow i _ hi
    obtain ⟨y, hy, w⟩ := w
    obtain ⟨v, hv', rv⟩ := hr.get hy
    refine ⟨_, ha, .inl ⟨rfl, xs, SqL.of hx⟩, a, xs, v, rfl, rfl, hx, by rw [hr.len]; exact hv', ?_⟩
    have dl : RAll G (Fz M H) xs.dropLast ds.dropLast := by rw [List.dropLast_eq_take, List.dropLast_eq_take, hr.len]; exact hr.take _
    have gu := go_upd rp hi ha m (d' := .lst ds.dropLast) (o := .lst xs.dropLast) ⟨_, upd_same, by rw [fz_upd m]; exact dl⟩
    refine k (.val y) _ _ _ gu ?_ w
    show R G (Fz M _) v y
    rw [fz_upd m]; exact rv
  · exact w.elim
/-- xs[i] = v -/
def wStore (j : Nat) (we wi : WE) : WS := fun P ρ => we ρ (fun s ρ1 => s.val' fun y => match ρ1[j]? with
  | some (.ow (.lst _)) => wi ρ1 (fun s2 ρ2 => s2.gets ρ2 fun i => match ρ2[j]?, i with
    | some (.ow (.lst ds)), .int i => ∃ k, ixN ds.length i = some k ∧ P.nx (List.set ρ2 j (Cell.ow (.lst (ds.set k y))))
    | _, _ => False) P.ex
  | _ => False) P.ex
theorem py_store (j : Nat) {x : Str} {p1 p2 : Pos} {i : Expr} {wi : WE} (hv : PE X (.Name x p1) (tVar j)) (he : PX G X W e we) (hi : PX G X W i wi) (hs : swapsWithSole [.Subscript (.Name x p1) i p2] e pos.line X.env = pure false := by rfl) (hw : swappedStores [.Subscript (.Name x p1) i p2] e X.env = pure none := by rfl)
    (h1 : (assignEach [.Subscript (.Name x p1) i p2] X.env).map (·.2) = [assign (.Subscript (.Name x p1) i p2) X.env] := by rfl)
    (ha : ∀ v, assign (.Subscript (.Name x p1) i p2) X.env v = (do
      let ov ← holding [v] (eval (.Name x p1) X.env)
      let iv ← holding [v, ov] (eval i X.env)
      standAt p2
      holding [v, ov, iv] (setItem ov iv v)
      release [v, ov, iv] []) := by intro _; rfl) : PY G X W (.Assign [.Subscript (.Name x p1) i p2] e pos) (wStore j we wi) := by
  obtain ⟨te, pe, se⟩ := he
  obtain ⟨ti, pi, si⟩ := hi
  refine ⟨_, ps_asg pe (pg_sub hv pi set_list ha) hs hw h1, fun c M ρ σ H Z P r w k => ?_⟩
  refine se M ρ σ H _ _ _ r.rep w (fun s ρ1 v H1 g rs w1 => ?_) (k.thr r)
  obtain ⟨y, ry, w2⟩ := rs.val' w1
  split at w2
  · rename_i ds0 h0
    obtain ⟨a, ha', m, _⟩ := g.rep.ow j _ h0
    have r1 := r.go g
    refine ⟨_, ha', si M ρ1 σ H1 _ _ _ r1.rep w2 (fun s2 ρ2 iv H2 g2 rs2 w3 => ?_) (k.thr r1)⟩
    obtain ⟨id, ai, w4⟩ := rs2.arg g2.rep w3
    split at w4
    · rename_i ds n hd
      obtain ⟨kk, hk, w5⟩ := w4
      obtain ⟨a2, ha2, _, xs, hx, hr⟩ := g2.rep.ow j _ hd
      rw [ha'] at ha2; cases ha2
      refine ⟨a, xs, n, kk, rfl, ai.int, hx, by rw [hr.len]; exact hk, ?_⟩
      have gu := go_upd g2.rep hd ha' m (d' := .lst (ds.set kk y)) (o := .lst (xs.set kk v)) ⟨_, upd_same, by rw [fz_upd m]; exact hr.set (ry.ex (g2.fz g.rep)) kk⟩
      exact k.nx M _ σ _ (r1.go (g2.trans gu)) w5
    · exact w4.elim
  · exact w2.elim
/-! ### a container of one's own becomes a value -/
def wFreeze (i : Nat) (w : WS) : WS := fun P ρ => i ∉ P.pins ∧ match ρ[i]? with
  | some (.ow d) => w P (List.set ρ i (Cell.fz d))
  | _ => False
theorem rep_freeze {c : Cxt} (r : RepS G c M ρ σ H) {i : Nat} {d : D} (hi : ρ[i]? = some (.ow d)) (hp : i ∉ c.pins) : ∃ M', RepS G c M' (List.set ρ i (Cell.fz d)) σ H := by
  obtain ⟨a, ha, m, ow⟩ := r.rep.ow i d hi
  have g := fun j => set_get (y := Cell.fz d) hi j
  have sub : ∀ b ∈ M.filter (· ≠ a), b ∈ M := fun b hb => (List.mem_filter.mp hb).1
  have na : a ∉ M.filter (· ≠ a) := fun z => by have := (List.mem_filter.mp z).2; simp at this
  have keepM : ∀ b ∈ M, b ≠ a → b ∈ M.filter (· ≠ a) := fun b hb n => List.mem_filter.mpr ⟨hb, by simpa using n⟩
  have e : Ex (Fz M H) (Fz (M.filter (· ≠ a)) H) := fz_anti sub
  have less : ∀ {b : Addr} {d : D}, Own G M H b d → Own G (M.filter (· ≠ a)) H b d := fun {b d} h => by
    cases d <;> first | exact h.elim | skip
    · obtain ⟨xs, h1, h2⟩ := h; exact ⟨xs, h1, h2.ex e⟩
    · obtain ⟨kvs, h1, h2, h3⟩ := h; exact ⟨kvs, h1, h2.ex e, h3.ex e⟩
    · obtain ⟨dx, fs, h1, h2, h3⟩ := h; exact ⟨dx, fs, h1, h2, h3.ex e⟩
  have ra : R G (Fz (M.filter (· ≠ a)) H) (.ref a) d := by
    have ow' := less ow
    cases d <;> first | exact ow'.elim | skip
    · obtain ⟨xs, h1, h2⟩ := ow'; exact .lst (fz_in na h1) h2
    · obtain ⟨kvs, h1, h2, h3⟩ := ow'; exact .dct ⟨kvs, .inl (fz_in na h1), rfl, rfl⟩ h2 h3
    · obtain ⟨dx, fs, h1, h2, h3⟩ := ow'; exact .obj (fz_in na h1) h2 h3
  have old : ∀ {n : Nat} {dd : D}, (List.set ρ i (Cell.fz d))[n]? = some (.ow dd) → n ≠ i ∧ ρ[n]? = some (.ow dd) := fun {n dd} h => by
    rw [g] at h
    split at h
    · cases h
    · rename_i hn; exact ⟨hn, h⟩
  -- what is owned at the beginning is pinned
  have nV : ¬ c.V0 a := fun z => by
    obtain ⟨j, hj, ej⟩ := c.hV a z
    obtain ⟨e1, dj, e2⟩ := r.pin j hj
    exact hp (by rw [r.rep.inj i j a d dj hi e2 ha (by rw [e1]; exact ej)]; exact hj)
  have h0 : New c.H0 a := (r.own a ⟨i, d, hi, ha⟩).resolve_left nV
  refine ⟨M.filter (· ≠ a), ⟨by rw [List.length_set, r.rep.len], fun j e' h => ?_, fun j e' h => ?_, fun j k b d1 d2 h1 h2 h3 h4 => r.rep.inj j k b d1 d2 (old h1).2 (old h2).2 h3 h4, fun b hb => r.rep.trk b (sub b hb), r.rep.tab, fun p hp => keepM _ (r.rep.tm p hp) fun z => ow.noTab r.rep.tab ⟨p, hp, z⟩⟩, fun b hb => keepM b (r.sub b hb) fun z => ?_, r.kp, fun b h => ?_, fun j hj => ?_, r.old, fun b hb => r.new b (sub b hb), r.tT, fun f hf => (r.fr f hf).trans e⟩
  · rw [g] at h
    split at h
    · rename_i hj; cases h; rw [hj]; exact ⟨_, ha, ra⟩
    · obtain ⟨v, h1, h2⟩ := r.rep.fz j e' h; exact ⟨v, h1, h2.ex e⟩
  · obtain ⟨hn, h'⟩ := old h
    obtain ⟨b, h1, h2, h3⟩ := r.rep.ow j e' h'
    exact ⟨b, h1, keepM b h2 fun z => hn (r.rep.inj j i a e' d h' hi (by rw [← z]; exact h1) ha), less h3⟩
  · obtain ⟨o, ho, t⟩ := c.hM b hb
    rw [z] at ho t
    rcases t with t | t
    · exact h0 o ho t
    · rw [r.tT] at t; exact ow.noTab r.rep.tab t
  · obtain ⟨j, e', h1, h2⟩ := h
    exact r.own b ⟨j, e', (old h1).2, h2⟩
  · have hne : j ≠ i := fun z => hp (by rw [← z]; exact hj)
    rw [g, if_neg hne]
    exact r.pin j hj
theorem py_freeze (i : Nat) {st : List Stmt} {w : WS} (h : PYs G X W st w) : PYs G X W st (wFreeze i w) := by
  obtain ⟨t, p, s⟩ := h
  refine ⟨t, p, fun c M ρ σ H Z P r hw k => ?_⟩
  obtain ⟨hp, hw⟩ := hw
  split at hw
  · rename_i d hi
    obtain ⟨M', r'⟩ := rep_freeze r hi (by rw [← k.pins]; exact hp)
    exact s c M' _ σ H Z P r' hw k
  · exact hw.elim
/-- return of a new container -/
def wRetNew (wn : WN) : WS := fun P ρ => wn ρ (fun d ρ1 => P.rn d ρ1) P.ex
theorem py_retNew (h : PXN G X W e wn) : PY G X W (.Return (some e) pos) (wRetNew wn) := by
  obtain ⟨t, p, s⟩ := h
  refine ⟨_, ps_ret p, fun c M ρ σ H Z P r w k => s M ρ σ H _ _ _ r.rep w (fun d ρ' a H' g n h0 rp ow q => ?_) (k.thr r)⟩
  exact k.rn d M ρ' σ a H' (r.go g) n (r.old a h0) rp ow q
end
end Pu
/-! ### the pure layer: defs and their calls -/
namespace Pu
open PySem PySem.Spec PyProof.Rows L2 Lk Evl
/-- a def's promise over cells: values, and what the caller owns and lends -/
abbrev PSp := List Cell → (D → List Cell → Prop) → (Str → List Str → List D → List Cell → Prop) → Prop
def NoUn (cs : List Cell) : Prop := ∀ c ∈ cs, c ≠ .un
def RetOk (G : Gx) (new : Bool) (M : List Addr) (cs : List Cell) (vs : List V) (H H' : Hp) (v : V) (d : D) : Prop :=
  match new with
  | false => R G (Fz M H') v d
  | true => ∃ a, v = .ref a ∧ a ∉ M ∧ New H a ∧ Rep G (a :: M) cs (vs.map some) H' ∧ Own G (a :: M) H' a d
def spP (G : Gx) (n : Nat) (new : Bool) (psp : PSp) : Sp := fun vs H Q E => vs.length = n ∧ ∃ M cells q eq, NoUn cells ∧ Rep G M cells (vs.map some) H ∧ psp cells q eq ∧
  (∀ d cs v H', Go G M (vs.map some) cells H cs H' → RetOk G new M cs vs H H' v d → q d cs → Q v H') ∧
  (∀ C ns xs cs dx H', Go G M (vs.map some) cells H cs H' → XdAt G M H' dx ns xs → eq C ns xs cs → E (.ref (G.cl C)) dx H')
def Cell.isOw : Cell → Bool
  | .ow _ => true
  | _ => false
def owIdx (cs : List Cell) : List Nat := (List.range cs.length).filter fun i => match cs[i]? with
  | some c => c.isOw
  | none => false
theorem mem_owIdx {cs : List Cell} {i : Nat} : i ∈ owIdx cs ↔ ∃ d, cs[i]? = some (.ow d) := by
  unfold owIdx
  rw [List.mem_filter, List.mem_range]
  constructor
  · rintro ⟨h1, h2⟩
    split at h2
    · rename_i c e
      cases c <;> first | (cases h2; done) | exact ⟨_, e⟩
    · cases h2
  · rintro ⟨d, e⟩
    exact ⟨(List.getElem?_eq_some_iff.mp e).1, by rw [e]; rfl⟩
def outC : List Cell → Env → List Cell
  | .ow _ :: cs, c :: ρ => c :: outC cs ρ
  | c :: cs, _ :: ρ => c :: outC cs ρ
  | cs, [] => cs
  | [], _ => []
theorem outC_nil (cs : List Cell) : outC cs [] = cs := by
  cases cs with
  | nil => rfl
  | cons c cs => cases c <;> rfl
theorem outC_len : ∀ (cs : List Cell) (ρ : Env), (outC cs ρ).length = cs.length
  | [], ρ => by cases ρ <;> rfl
  | c :: cs, [] => by rw [outC_nil]
  | c :: cs, d :: ρ => by cases c <;> simp [outC, outC_len cs ρ]
theorem outC_ow : ∀ {cs : List Cell} {ρ : Env} {i : Nat} {d : D} {c : Cell}, cs[i]? = some (.ow d) → ρ[i]? = some c → (outC cs ρ)[i]? = some c
  | [], _, _, _, _, h, _ => by simp at h
  | _ :: _, [], _, _, _, _, h => by simp at h
  | c :: cs, x :: ρ, 0, d, e, h, k => by simp at h k; subst h; subst k; rfl
  | c :: cs, x :: ρ, i + 1, d, e, h, k => by
    have := outC_ow (cs := cs) (ρ := ρ) (i := i) (by simpa using h) (by simpa using k)
    cases c <;> simpa [outC] using this
theorem outC_fz : ∀ {cs : List Cell} {ρ : Env} {i : Nat}, (∀ d, cs[i]? ≠ some (.ow d)) → (outC cs ρ)[i]? = cs[i]?
  | [], ρ, i, _ => by cases ρ <;> rfl
  | c :: cs, [], _, _ => by rw [outC_nil]
  | c :: cs, x :: ρ, 0, h => by
    cases c with
    | ow d => exact absurd rfl (h d)
    | fz d => rfl
    | un => rfl
  | c :: cs, x :: ρ, i + 1, h => by
    have := outC_fz (cs := cs) (ρ := ρ) (i := i) fun d z => h d (by simpa using z)
    cases c <;> simpa [outC] using this
section
variable {G : Gx} {M : List Addr} {cells : List Cell} {vs : List V} {H : Hp} {N : List Str}
theorem pad_get {α β : Type} {l : List α} {n : Nat} {x : α} {i : Nat} {y : α} (h : (l ++ List.replicate n x)[i]? = some y) : l[i]? = some y ∨ (y = x ∧ l.length ≤ i) := by
  by_cases hi : i < l.length
  · rw [List.getElem?_append_left hi] at h; exact .inl h
  · rw [List.getElem?_append_right (by omega)] at h
    exact .inr ⟨(List.eq_of_mem_replicate (List.mem_of_getElem? h)), by omega⟩
/-- the slots at the entry -/
theorem rep_start (r : Rep G M cells (vs.map some) H) (hl : vs.length ≤ N.length) : Rep G M (cells ++ List.replicate (N.length - cells.length) .un) (L2.start N vs) H := by
  have e : cells.length = vs.length := by rw [r.len, List.length_map]
  have get : ∀ {i : Nat} {c : Cell}, (cells ++ List.replicate (N.length - cells.length) Cell.un)[i]? = some c → c ≠ .un → cells[i]? = some c := fun {i c} h n => by
    rcases pad_get (β := Nat) h with h | h
    · exact h
    · exact absurd h.1 n
  have up : ∀ {i : Nat} {v : Option V}, (vs.map some)[i]? = some v → (L2.start N vs)[i]? = some v := fun {i v} h => by
    unfold L2.start
    rw [List.getElem?_append_left (List.getElem?_eq_some_iff.mp h).1]; exact h
  have down : ∀ {i : Nat} {v : V}, (L2.start N vs)[i]? = some (some v) → (vs.map some)[i]? = some (some v) := fun {i v} h => by
    unfold L2.start at h
    rcases pad_get (β := Nat) h with h | h
    · exact h
    · cases h.1
  refine ⟨by unfold L2.start; simp; omega, fun i d h => ?_, fun i d h => ?_, fun i j a d d' h1 h2 h3 h4 => r.inj i j a d d' (get h1 (by simp)) (get h2 (by simp)) (down h3) (down h4), r.trk, r.tab, r.tm⟩
  · obtain ⟨v, h1, h2⟩ := r.fz i d (get h (by simp)); exact ⟨v, up h1, h2⟩
  · obtain ⟨a, h1, h2⟩ := r.ow i d (get h (by simp)); exact ⟨a, up h1, h2⟩
def Cxt.entry (G : Gx) (M : List Addr) (cells : List Cell) (vs : List V) (H : Hp) (N : List Str) (r : Rep G M cells (vs.map some) H) (hl : vs.length ≤ N.length) : Cxt where
  M0 := M
  V0 := Seen cells (vs.map some)
  H0 := H
  σ0 := L2.start N vs
  pins := owIdx cells
  frs := []
  hV := fun a ⟨i, d, h1, h2⟩ => ⟨i, mem_owIdx.mpr ⟨d, h1⟩, by
    unfold L2.start
    rw [List.getElem?_append_left (List.getElem?_eq_some_iff.mp h2).1]; exact h2⟩
  T := G.tabs
  hM := r.trk
theorem reps_start (r : Rep G M cells (vs.map some) H) (hl : vs.length ≤ N.length) : RepS G (.entry G M cells vs H N r hl) M (cells ++ List.replicate (N.length - cells.length) .un) (L2.start N vs) H := by
  refine ⟨rep_start r hl, fun a h => h, fun b o h _ _ => h, fun a ⟨i, d, h1, h2⟩ => ?_, fun i hi => ⟨rfl, ?_⟩, fun a h => h, fun a h => .inl h, rfl, fun f hf => nomatch hf⟩
  · left
    rcases pad_get (β := Nat) h1 with h1 | h1
    · refine ⟨i, d, h1, ?_⟩
      unfold L2.start at h2
      rcases pad_get (β := Nat) h2 with h2 | h2
      · exact h2
      · cases h2.1
    · cases h1.1
  · obtain ⟨d, e⟩ := mem_owIdx.mp hi
    exact ⟨d, by rw [List.getElem?_append_left (List.getElem?_eq_some_iff.mp e).1]; exact e⟩
/-- behind the body: for the caller -/
theorem exit_rep (r : Rep G M cells (vs.map some) H) (hl : vs.length ≤ N.length) {M' M1 M2 : List Addr} {ρ : Env} {σ : L2.St} {H' : Hp} (q : RepS G (.entry G M cells vs H N r hl) M' ρ σ H') (rp : Rep G M2 ρ σ H') (s12 : ∀ b ∈ M1, b ∈ M2) (s01 : ∀ b ∈ M, b ∈ M1)
    (ex : Ex (Fz M H) (Fz M1 H')) (tr : ∀ b ∈ M1, ∃ o, H' b = some o ∧ (NoT o ∨ ∃ p ∈ G.tabs, p.1 = b)) : Rep G M1 (outC cells ρ) (vs.map some) H' := by
  have an : Ex (Fz M2 H') (Fz M1 H') := fz_anti s12
  have ow' : ∀ {i : Nat} {d : D}, (outC cells ρ)[i]? = some (.ow d) → (∃ d0, cells[i]? = some (.ow d0)) ∧ ρ[i]? = some (.ow d) := fun {i d} h => by
    by_cases ho : ∃ d0, cells[i]? = some (.ow d0)
    · obtain ⟨d0, h0⟩ := ho
      obtain ⟨_, d1, h1⟩ := q.pin i (mem_owIdx.mpr ⟨d0, h0⟩)
      have := outC_ow h0 h1
      rw [this] at h
      cases h
      exact ⟨⟨d0, h0⟩, h1⟩
    · rw [outC_fz fun d z => ho ⟨d, z⟩] at h
      exact absurd ⟨d, h⟩ ho
  have at0 : ∀ {i : Nat} {d0 : D}, cells[i]? = some (.ow d0) → σ[i]? = (vs.map some)[i]? := fun {i d0} h => by
    have h1 := (q.pin i (mem_owIdx.mpr ⟨d0, h⟩)).1
    rw [h1]
    show (L2.start N vs)[i]? = _
    obtain ⟨a, h2, _⟩ := r.ow i d0 h
    unfold L2.start
    rw [List.getElem?_append_left (List.getElem?_eq_some_iff.mp h2).1]
  refine ⟨by rw [outC_len]; exact r.len, fun i d h => ?_, fun i d h => ?_, fun i j a d d' h1 h2 h3 h4 => ?_, tr, rp.tab, fun p hp => s01 _ (r.tm p hp)⟩
  · have nw : ∀ d0, cells[i]? ≠ some (.ow d0) := fun d0 z => by
      obtain ⟨_, d1, h1⟩ := q.pin i (mem_owIdx.mpr ⟨d0, z⟩)
      rw [outC_ow z h1] at h; cases h
    rw [outC_fz nw] at h
    obtain ⟨v, h1, h2⟩ := r.fz i d h
    exact ⟨v, h1, h2.ex ex⟩
  · obtain ⟨⟨d0, h0⟩, h1⟩ := ow' h
    obtain ⟨a, e1, e2, e3⟩ := rp.ow i d h1
    obtain ⟨b, f1, f2, _⟩ := r.ow i d0 h0
    rw [at0 h0, f1] at e1
    cases e1
    refine ⟨_, f1, s01 _ f2, ?_⟩
    cases d <;> first | exact e3.elim | skip
    · obtain ⟨xs, h1, h2⟩ := e3; exact ⟨xs, h1, h2.ex an⟩
    · obtain ⟨kvs, h1, h2, h3⟩ := e3; exact ⟨kvs, h1, h2.ex an, h3.ex an⟩
    · obtain ⟨dx, fs, h1, h2, h3⟩ := e3; exact ⟨dx, fs, h1, h2, h3.ex an⟩
  · obtain ⟨⟨d0, h0⟩, _⟩ := ow' h1
    obtain ⟨⟨d1, h5⟩, _⟩ := ow' h2
    exact r.inj i j a d0 d1 h0 h5 h3 h4
theorem go_exit (r : Rep G M cells (vs.map some) H) (hl : vs.length ≤ N.length) {M' : List Addr} {ρ : Env} {σ : L2.St} {H' : Hp} (q : RepS G (.entry G M cells vs H N r hl) M' ρ σ H') : Go G M (vs.map some) cells H (outC cells ρ) H' := by
  refine ⟨exit_rep r hl q q.rep q.sub (fun _ h => h) (fun b o h => ?_) fun a ha => ?_, fun i => ?_, q.kp⟩
  · obtain ⟨n, e, t⟩ := fz_of3 h
    exact fz_in n (q.kp b o e (fun z => n (r.seenM z)) t) t
  · exact q.rep.trk a (q.sub a ha)
  · by_cases ho : ∃ d0, cells[i]? = some (.ow d0)
    · obtain ⟨d0, h0⟩ := ho
      obtain ⟨_, d1, h1⟩ := q.pin i (mem_owIdx.mpr ⟨d0, h0⟩)
      exact .inr ⟨d0, d1, h0, outC_ow h0 h1⟩
    · exact .inl (outC_fz fun d z => ho ⟨d, z⟩)
end
/-- what is wanted behind a body -/
def endsP (new : Bool) (cells : List Cell) (q : D → List Cell → Prop) (eq : Str → List Str → List D → List Cell → Prop) : PEnds where
  pins := owIdx cells
  nx := fun ρ => new = false ∧ q .non (outC cells ρ)
  rt := fun s ρ => match s with
    | .val d => new = false ∧ q d (outC cells ρ)
    | .slot i => i ∉ owIdx cells ∧ match ρ[i]? with
      | some (.ow d) => q d (outC cells ρ)
      | _ => False
  rn := fun d ρ => q d (outC cells ρ)
  ex := fun C ns vs ρ => eq C ns vs (outC cells ρ)
section
variable {G : Gx} {P : Program} {wd : World} {mg : Str → Option Value} {base : Heap} {k : Nat} {f : Addr} {fd : FuncData} {N ps : List Str} {x qual : Str} {st : Stmt} {psp : PSp} {new : Bool} {w : WS}
theorem ends_ok {M : List Addr} {cells : List Cell} {vs : List V} {H : Hp} {q : D → List Cell → Prop} {eq : Str → List Str → List D → List Cell → Prop} {Q : VK} {W : WX} (r : Rep G M cells (vs.map some) H) (hl : vs.length ≤ N.length)
    (hq : ∀ d cs v H', Go G M (vs.map some) cells H cs H' → RetOk G new M cs vs H H' v d → q d cs → Q v H')
    (he : ∀ C ns xs cs σ dx H', Go G M (vs.map some) cells H cs H' → XdAt G M H' dx ns xs → eq C ns xs cs → W (.ref (G.cl C)) dx σ H') :
    EndsOk G W (.entry G M cells vs H N r hl) { nx := fun _ H' => Q .non H', rt := Q } (endsP new cells q eq) := by
  have ret : ∀ (d : D) M' ρ σ a H' M2, RepS G (.entry G M cells vs H N r hl) M' ρ σ H' → a ∉ M → New H a → Rep G M2 ρ σ H' → (∀ b ∈ a :: M, b ∈ M2) → Own G M2 H' a d → q d (outC cells ρ) → Q (.ref a) H' := by
    intro d M' ρ σ a H' M2 rs na h0 rp2 sub ow qq
    have g := go_exit r hl rs
    have an : Ex (Fz M2 H') (Fz (a :: M) H') := fz_anti sub
    have ow1 : Own G (a :: M) H' a d := by
      cases d <;> first | exact ow.elim | skip
      · obtain ⟨xs, h1, h2⟩ := ow; exact ⟨xs, h1, h2.ex an⟩
      · obtain ⟨kvs, h1, h2, h3⟩ := ow; exact ⟨kvs, h1, h2.ex an, h3.ex an⟩
      · obtain ⟨dx, fs, h1, h2, h3⟩ := ow; exact ⟨dx, fs, h1, h2, h3.ex an⟩
    refine hq d _ _ _ g ?_ qq
    cases new with
    | false => exact own_r na ow1
    | true =>
      refine ⟨a, rfl, na, h0, exit_rep r hl rs rp2 sub (fun b hb => List.mem_cons_of_mem _ hb) (fun b o h => ?_) (fun b hb => rp2.trk b (sub b hb)), ow1⟩
      obtain ⟨n, e, t⟩ := fz_of3 h
      refine fz_in (fun z => ?_) (rs.kp b o e (fun z => n (r.seenM z)) t) t
      rcases List.mem_cons.mp z with z | z
      · rw [z] at e; exact (h0 o e t).elim
      · exact n z
  refine ⟨rfl, fun M' ρ σ H' rs w => ?_, fun s M' ρ σ v H' rs hv w => ?_, fun d M' ρ σ a H' rs na h0 rp ow w => ?_, fun _ _ _ _ _ w => w.elim, fun _ _ _ _ _ w => w.elim, fun C ns xs M' ρ σ dx H' rs hx w => ?_⟩
  · obtain ⟨e, w⟩ := w
    subst e
    exact hq _ _ _ _ (go_exit r hl rs) R.non w
  · cases s with
    | val d =>
      obtain ⟨e, w⟩ := w
      subst e
      exact hq _ _ _ _ (go_exit r hl rs) (R.ex (fz_anti rs.sub) hv) w
    | slot i =>
      obtain ⟨hi, w⟩ := w
      obtain ⟨hv, d, hd⟩ := hv
      simp only [hd] at w
      obtain ⟨a, e, m, ow⟩ := rs.rep.ow i d hd
      rw [hv] at e
      cases e
      have sn : Seen ρ σ a := ⟨i, d, hd, hv⟩
      have nV : ¬ Seen cells (vs.map some) a := fun z => by
        obtain ⟨j, dj, e1, e2⟩ := z
        obtain ⟨e3, dj2, e4⟩ := rs.pin j (mem_owIdx.mpr ⟨dj, e1⟩)
        have e5 : σ[j]? = some (some (.ref a)) := by
          rw [e3]
          show (L2.start N vs)[j]? = _
          unfold L2.start
          rw [List.getElem?_append_left (List.getElem?_eq_some_iff.mp e2).1]; exact e2
        have : i = j := rs.rep.inj i j a d dj2 hd e4 hv e5
        exact hi (by rw [this]; exact mem_owIdx.mpr ⟨dj, e1⟩)
      have h0 : New H a := (rs.own a sn).resolve_left nV
      have na : a ∉ M := fun z => by
        obtain ⟨o, ho, t⟩ := r.trk a z
        rcases t with t | t
        · exact h0 o ho t
        · exact ow.noTab rs.rep.tab t
      refine ret d M' ρ σ a H' M' rs na h0 rs.rep (fun b hb => ?_) ow w
      rcases List.mem_cons.mp hb with rfl | hb
      · exact m
      · exact rs.sub b hb
  · exact ret d M' ρ σ a H' (a :: M') rs (fun z => na (rs.sub a z)) h0 rp (fun b hb => by
      rcases List.mem_cons.mp hb with rfl | hb
      · exact List.mem_cons_self
      · exact List.mem_cons_of_mem _ (rs.sub b hb)) ow w
  · refine he C ns xs _ σ dx H' (go_exit r hl rs) ?_ w
    cases dx with
    | none => exact hx
    | some a => obtain ⟨fs, h1, h2, h3⟩ := hx; exact ⟨fs, fz_anti rs.sub _ _ h1, h2, h3.ex (fz_anti rs.sub)⟩
/-- a def by its body: no exception leaves it -/
theorem fnP (F : Fun G.K x qual st f fd) (S : FnScope N ps (defScope st)) (hn : ps.length ≤ N.length)
    (hb : ∀ (cdv : Value) (A : Around) (outer : List PySem.Env) (s : Shared) (H : Hp) (E : XK), (A.deeper (envOfC qual (defScope st) s.heap.objs.size f cdv)).guards = some [] → Room k (A.deeper (envOfC qual (defScope st) s.heap.objs.size f cdv)) →
      PYs G (cxOf CX0 P wd G.K mg base N qual (defScope st) f cdv A outer s H E).nox W0 (defBody st) w)
    (hw : ∀ cells q eq, cells.length = ps.length → psp cells q eq → w (endsP new cells q (fun _ _ _ _ => False)) (cells ++ List.replicate (N.length - cells.length) .un)) :
    FnG P wd G.K mg base CX0 (k + 1) f fd ps (spP G ps.length new psp) := by
  refine Fun.okG F S (fun vs H Q E h => h.1) (fun cdv A outer s H vs Q E hga hr h => ?_)
  obtain ⟨hl, M, cells, q, eq, nu, rp, hp, hq, he⟩ := h
  obtain ⟨t, pt, stt⟩ := hb cdv A outer s H E hga hr
  have hl' : vs.length ≤ N.length := by rw [hl]; exact hn
  have hc : cells.length = ps.length := by rw [rp.len, List.length_map, hl]
  exact ⟨t, pt, stt _ M _ _ H _ _ (reps_start rp hl') (hw cells q eq hc hp) (ends_ok rp hl' hq fun _ _ _ _ _ _ _ _ _ z => z)⟩
/-- .. exceptions may leave it -/
theorem fnX (F : Fun G.K x qual st f fd) (S : FnScope N ps (defScope st)) (hn : ps.length ≤ N.length)
    (hb : ∀ (cdv : Value) (A : Around) (outer : List PySem.Env) (s : Shared) (H : Hp) (E : XK), (A.deeper (envOfC qual (defScope st) s.heap.objs.size f cdv)).guards = some [] → Room k (A.deeper (envOfC qual (defScope st) s.heap.objs.size f cdv)) →
      PYs G (cxOf (L2.CX P wd) P wd G.K mg base N qual (defScope st) f cdv A outer s H E) (fun cls d _ H => E cls d H) (defBody st) w)
    (hw : ∀ cells q eq, cells.length = ps.length → psp cells q eq → w (endsP new cells q eq) (cells ++ List.replicate (N.length - cells.length) .un)) :
    FnG P wd G.K mg base (L2.CX P wd) (k + 1) f fd ps (spP G ps.length new psp) := by
  obtain ⟨oc, od, kV, doc, pm, an, cdv, ct, osl, rfl, lk, hcd⟩ := F.ex
  refine fn_ofG lk hcd S (fun vs H Q E h => h.1) fun A outer s H vs Q E hga hr h => ?_
  obtain ⟨hl, M, cells, q, eq, nu, rp, hp, hq, he⟩ := h
  obtain ⟨t, pt, stt⟩ := hb cdv A outer s H E hga hr
  have hl' : vs.length ≤ N.length := by rw [hl]; exact hn
  have hc : cells.length = ps.length := by rw [rp.len, List.length_map, hl]
  exact ⟨t, pt, stt _ M _ _ H _ _ (reps_start rp hl') (hw cells q eq hc hp) (ends_ok rp hl' hq fun C ns xs cs _ dx H' g hx z => he C ns xs cs dx H' g hx z)⟩
end
/-! ### calls -/
def cellOf (ρ : Env) : Src → Cell
  | .val d => .fz d
  | .slot i => match ρ[i]? with
    | some (.ow d) => .ow d
    | _ => .un
/-- the slots that were lent, as they came back -/
def wbk : Env → List Src → List Cell → Env
  | ρ, .slot i :: ss, .ow d :: cs => wbk (List.set ρ i (Cell.ow d)) ss cs
  | ρ, _ :: ss, _ :: cs => wbk ρ ss cs
  | ρ, _, _ => ρ
def slots : List Src → List Nat
  | [] => []
  | .slot i :: ss => i :: slots ss
  | .val _ :: ss => slots ss
theorem mem_slots : ∀ {ss : List Src} {i : Nat}, i ∈ slots ss ↔ Src.slot i ∈ ss
  | [], i => by simp [slots]
  | .slot j :: ss, i => by simp [slots, mem_slots (ss := ss)]
  | .val d :: ss, i => by simp [slots, mem_slots (ss := ss)]
/-- distinct slots: each comes back from its own place -/
theorem wbk_get : ∀ {ss : List Src} {cs : List Cell} {ρ : Env} {i : Nat}, (slots ss).Nodup → i < ρ.length → (∃ (n : Nat) (d : D), ss[n]? = some (.slot i) ∧ cs[n]? = some (.ow d) ∧ (wbk ρ ss cs)[i]? = some (.ow d)) ∨
    ((∀ n : Nat, ss[n]? = some (.slot i) → ∀ d, cs[n]? ≠ some (.ow d)) ∧ (wbk ρ ss cs)[i]? = ρ[i]?)
  | [], cs, ρ, i, _, _ => .inr ⟨by simp, by cases cs <;> rfl⟩
  | s :: ss, [], ρ, i, _, _ => .inr ⟨by simp, by cases s <;> rfl⟩
  | .val d0 :: ss, c :: cs, ρ, i, h, hi => by
    have e : wbk ρ (.val d0 :: ss) (c :: cs) = wbk ρ ss cs := rfl
    rw [e]
    rcases wbk_get (ss := ss) (cs := cs) (ρ := ρ) (i := i) h hi with ⟨n, d, h1, h2, h3⟩ | ⟨h1, h2⟩
    · exact .inl ⟨n + 1, d, by simpa using h1, by simpa using h2, h3⟩
    · exact .inr ⟨fun n hn d z => by
        cases n with
        | zero => simp at hn
        | succ n => exact h1 n (by simpa using hn) d (by simpa using z), h2⟩
  | .slot j :: ss, c :: cs, ρ, i, h, hi => by
    have h' := List.nodup_cons.mp (show (j :: slots ss).Nodup from h)
    have shift : ∀ ρ' : Env, i < ρ'.length → (j ≠ i → ρ'[i]? = ρ[i]?) → wbk ρ (.slot j :: ss) (c :: cs) = wbk ρ' ss cs → (j = i → (∃ d, c = .ow d ∧ ρ'[i]? = some (.ow d)) ∨ ((∀ d, c ≠ .ow d) ∧ ρ'[i]? = ρ[i]?)) →
        (∃ (n : Nat) (d : D), (Src.slot j :: ss)[n]? = some (.slot i) ∧ (c :: cs)[n]? = some (.ow d) ∧ (wbk ρ (.slot j :: ss) (c :: cs))[i]? = some (.ow d)) ∨
        ((∀ n : Nat, (Src.slot j :: ss)[n]? = some (.slot i) → ∀ d, (c :: cs)[n]? ≠ some (.ow d)) ∧ (wbk ρ (.slot j :: ss) (c :: cs))[i]? = ρ[i]?) := by
      intro ρ' hl ho e hc
      rw [e]
      rcases wbk_get (ss := ss) (cs := cs) (ρ := ρ') (i := i) h'.2 hl with ⟨n, d, h1, h2, h3⟩ | ⟨h1, h2⟩
      · exact .inl ⟨n + 1, d, by simpa using h1, by simpa using h2, h3⟩
      · by_cases hj : j = i
        · subst hj
          rcases hc rfl with ⟨d, rfl, hd⟩ | ⟨nd, hd⟩
          · exact .inl ⟨0, d, rfl, rfl, by rw [h2, hd]⟩
          · refine .inr ⟨fun n hn d z => ?_, by rw [h2, hd]⟩
            cases n with
            | zero => simp at z; exact nd d z
            | succ n => exact h1 n (by simpa using hn) d (by simpa using z)
        · refine .inr ⟨fun n hn d z => ?_, by rw [h2, ho hj]⟩
          cases n with
          | zero => simp at hn; exact hj hn
          | succ n => exact h1 n (by simpa using hn) d (by simpa using z)
    cases c with
    | ow d =>
      refine shift (List.set ρ j (Cell.ow d)) (by rw [List.length_set]; exact hi) (fun ne => List.getElem?_set_ne ne) rfl fun e => .inl ⟨d, rfl, ?_⟩
      subst e
      rw [List.getElem?_set_self hi]
    | fz d => exact shift ρ hi (fun _ => rfl) rfl fun _ => .inr ⟨fun d z => (nomatch z), rfl⟩
    | un => exact shift ρ hi (fun _ => rfl) rfl fun _ => .inr ⟨fun d z => (nomatch z), rfl⟩
theorem wbk_len : ∀ (ρ : Env) (ss : List Src) (cs : List Cell), (wbk ρ ss cs).length = ρ.length
  | ρ, [], cs => by cases cs <;> rfl
  | ρ, s :: ss, [] => by cases s <;> rfl
  | ρ, .val d0 :: ss, c :: cs => wbk_len ρ ss cs
  | ρ, .slot j :: ss, .ow d :: cs => by
    show (wbk (List.set ρ j (Cell.ow d)) ss cs).length = _
    rw [wbk_len, List.length_set]
  | ρ, .slot j :: ss, .fz d :: cs => wbk_len ρ ss cs
  | ρ, .slot j :: ss, .un :: cs => wbk_len ρ ss cs
section
variable {G : Gx} {X : Cx} {W : WX} {M : List Addr} {ρ ρ1 : Env} {σ : L2.St} {H H1 : Hp}
theorem rss_get {vs : List V} {ss : List Src} (h : RSs G M ρ σ H vs ss) {n : Nat} {s : Src} (hs : ss[n]? = some s) : ∃ v, vs[n]? = some v ∧ RS G M ρ σ H v s := by
  induction h generalizing n with
  | nil => simp at hs
  | cons a t ih =>
    cases n with
    | zero => simp at hs; subst hs; exact ⟨_, rfl, a⟩
    | succ n => obtain ⟨v, h1, h2⟩ := ih (n := n) (by simpa using hs); exact ⟨v, by simpa using h1, h2⟩
theorem rss_len {vs : List V} {ss : List Src} (h : RSs G M ρ σ H vs ss) : vs.length = ss.length := by
  induction h with
  | nil => rfl
  | cons a t ih => simp [ih]
/-- what a call is handed -/
theorem rep_args (r : Rep G M ρ σ H) {vs : List V} {ss : List Src} (h : RSs G M ρ σ H vs ss) (nd : (slots ss).Nodup) : Rep G M (ss.map (cellOf ρ)) (vs.map some) H ∧ NoUn (ss.map (cellOf ρ)) := by
  have ow : ∀ {n : Nat} {d : D}, (ss.map (cellOf ρ))[n]? = some (.ow d) → ∃ i, ss[n]? = some (.slot i) ∧ ρ[i]? = some (.ow d) := fun {n d} h => by
    rw [List.getElem?_map] at h
    obtain ⟨s, hs, e⟩ := Option.map_eq_some_iff.mp h
    cases s with
    | val d0 => cases e
    | slot i =>
      refine ⟨i, hs, ?_⟩
      unfold cellOf at e
      simp only at e
      split at e
      · rename_i d1 hd; cases e; exact hd
      · cases e
  refine ⟨⟨by rw [List.length_map, List.length_map, rss_len h], fun n d hn => ?_, fun n d hn => ?_, fun n m a d d' h1 h2 h3 h4 => ?_, r.trk, r.tab, r.tm⟩, fun c hc => ?_⟩
  · rw [List.getElem?_map] at hn
    obtain ⟨s, hs, e⟩ := Option.map_eq_some_iff.mp hn
    cases s with
    | val d0 =>
      cases e
      obtain ⟨v, h1, h2⟩ := rss_get h hs
      exact ⟨v, by rw [List.getElem?_map, h1]; rfl, h2⟩
    | slot i =>
      unfold cellOf at e
      simp only at e
      split at e <;> cases e
  · obtain ⟨i, hs, hd⟩ := ow hn
    obtain ⟨v, h1, h2, _⟩ := rss_get h hs
    obtain ⟨a, e1, e2, e3⟩ := r.ow i d hd
    rw [h2] at e1
    cases e1
    exact ⟨a, by rw [List.getElem?_map, h1]; rfl, e2, e3⟩
  · obtain ⟨i, hs, hd⟩ := ow h1
    obtain ⟨j, hs2, hd2⟩ := ow h2
    obtain ⟨v, q1, q2, _⟩ := rss_get h hs
    obtain ⟨u, q3, q4, _⟩ := rss_get h hs2
    rw [List.getElem?_map, q1] at h3
    rw [List.getElem?_map, q3] at h4
    cases h3
    cases h4
    have hij : i = j := r.inj i j a d d' hd hd2 q2 q4
    subst hij
    -- two places of one slot
    clear h1 h2 q1 q3 q2 q4 hd hd2 ow h
    induction ss generalizing n m with
    | nil => simp at hs
    | cons s ss ih =>
      cases s with
      | val d0 =>
        cases n with
        | zero => simp at hs
        | succ n =>
          cases m with
          | zero => simp at hs2
          | succ m => rw [ih (show (slots ss).Nodup from nd) n m (by simpa using hs) (by simpa using hs2)]
      | slot k =>
        obtain ⟨n1, n2⟩ := List.nodup_cons.mp (show (k :: slots ss).Nodup from nd)
        cases n with
        | zero =>
          cases m with
          | zero => rfl
          | succ m =>
            simp at hs hs2
            subst hs
            exact (n1 (mem_slots.mpr (List.mem_of_getElem? hs2))).elim
        | succ n =>
          cases m with
          | zero =>
            simp at hs hs2
            subst hs2
            exact (n1 (mem_slots.mpr (List.mem_of_getElem? hs))).elim
          | succ m => rw [ih n2 n m (by simpa using hs) (by simpa using hs2)]
  · obtain ⟨s, hs, e⟩ := List.mem_map.mp hc
    obtain ⟨n, hn⟩ := List.getElem?_of_mem hs
    intro z
    subst z
    cases s with
    | val d0 => cases e
    | slot i =>
      obtain ⟨v, _, _, d, hd⟩ := rss_get h hn
      unfold cellOf at e
      simp only [hd] at e
      cases e
/-- behind a call -/
theorem go_call (r : Rep G M ρ σ H) {vs : List V} {ss : List Src} (h : RSs G M ρ σ H vs ss) (nd : (slots ss).Nodup) {cs : List Cell} {H' : Hp} {M1 : List Addr} (g : Go G M (vs.map some) (ss.map (cellOf ρ)) H cs H') (rp : Rep G M1 cs (vs.map some) H') (s1 : ∀ b ∈ M, b ∈ M1) (fz1 : Ex (Fz M H) (Fz M1 H')) :
    Rep G M1 (wbk ρ ss cs) σ H' ∧ Kin ρ (wbk ρ ss cs) ∧ Keep (Seen ρ σ) H H' := by
  have lt : ∀ {i : Nat} {c : Cell}, (wbk ρ ss cs)[i]? = some c → i < ρ.length := fun {i c} h => by
    rw [← wbk_len ρ ss cs]; exact (List.getElem?_eq_some_iff.mp h).1
  have args := rep_args r h nd
  -- a slot that is lent is owned
  have lent : ∀ {n i : Nat}, ss[n]? = some (.slot i) → ∃ v d, vs[n]? = some v ∧ σ[i]? = some (some v) ∧ ρ[i]? = some (.ow d) ∧ (ss.map (cellOf ρ))[n]? = some (.ow d) := fun {n i} hs => by
    obtain ⟨v, h1, h2, d, hd⟩ := rss_get h hs
    refine ⟨v, d, h1, h2, hd, ?_⟩
    rw [List.getElem?_map, hs]
    show some (cellOf ρ (.slot i)) = _
    unfold cellOf
    simp only [hd]
  have back : ∀ {n i : Nat}, ss[n]? = some (.slot i) → ∃ d, cs[n]? = some (.ow d) := fun {n i} hs => by
    obtain ⟨v, d, _, _, _, e⟩ := lent hs
    exact (g.kin.ow n).mpr ⟨d, e⟩
  have kp : Keep (Seen ρ σ) H H' := fun b o e n t => g.kp b o e (fun ⟨m, d, e1, e2⟩ => by
    rw [List.getElem?_map] at e1
    obtain ⟨s, hs, ec⟩ := Option.map_eq_some_iff.mp e1
    cases s with
    | val d0 => cases ec
    | slot i =>
      obtain ⟨v, d', h1, h2, h3, _⟩ := lent hs
      rw [List.getElem?_map, h1] at e2
      cases e2
      exact n ⟨i, d', h3, h2⟩) t
  refine ⟨⟨by rw [wbk_len]; exact r.len, fun i d hi => ?_, fun i d hi => ?_, fun i j a d d' h1 h2 h3 h4 => ?_, rp.trk, rp.tab, fun p hp => s1 _ (r.tm p hp)⟩, fun i => ?_, kp⟩
  · rcases wbk_get (ss := ss) (cs := cs) nd (lt hi) with ⟨n, d1, e1, e2, e3⟩ | ⟨_, e⟩
    · rw [hi] at e3; cases e3
    · rw [hi] at e
      obtain ⟨v, h1, h2⟩ := r.fz i d e.symm
      exact ⟨v, h1, h2.ex fz1⟩
  · rcases wbk_get (ss := ss) (cs := cs) nd (lt hi) with ⟨n, d1, e1, e2, e3⟩ | ⟨no, e⟩
    · rw [hi] at e3
      cases e3
      obtain ⟨a, q1, q2, q3⟩ := rp.ow n d e2
      obtain ⟨v, d0, h1, h2, h3, h4⟩ := lent e1
      rw [List.getElem?_map, h1] at q1
      cases q1
      exact ⟨a, h2, q2, q3⟩
    · rw [hi] at e
      obtain ⟨a, h1, h2, h3⟩ := r.ow i d e.symm
      -- it was not lent
      have nl : ∀ n : Nat, ss[n]? ≠ some (.slot i) := fun n hn => by
        obtain ⟨d', hd'⟩ := back hn
        exact no n hn d' hd'
      have same : H' a = H a := by
        obtain ⟨o, ho, nt, _⟩ := h3.pl
        rw [ho]
        refine g.kp a o ho (fun ⟨m, d', e1, e2⟩ => ?_) nt
        rw [List.getElem?_map] at e1
        obtain ⟨s, hs, ec⟩ := Option.map_eq_some_iff.mp e1
        cases s with
        | val d0 => cases ec
        | slot j =>
          obtain ⟨v, d2, q1, q2, q3, _⟩ := lent hs
          rw [List.getElem?_map, q1] at e2
          cases e2
          have : i = j := r.inj i j a d d2 e.symm q3 h1 q2
          exact nl m (by rw [this]; exact hs)
      refine ⟨a, h1, s1 a h2, ?_⟩
      cases d <;> first | exact h3.elim | skip
      · obtain ⟨xs, h1, h2⟩ := h3; exact ⟨xs, by rw [same]; exact h1, h2.ex fz1⟩
      · obtain ⟨kvs, h1, h2, h3⟩ := h3; exact ⟨kvs, by rw [same]; exact h1, h2.ex fz1, h3.ex fz1⟩
      · obtain ⟨dx, fs, h1, h2, h3⟩ := h3; exact ⟨dx, fs, by rw [same]; exact h1, h2, h3.ex fz1⟩
  · have o1 : ∃ d0, ρ[i]? = some (.ow d0) := by
      rcases wbk_get (ss := ss) (cs := cs) nd (lt h1) with ⟨n, d1, e1, e2, e3⟩ | ⟨_, e⟩
      · obtain ⟨v, d0, _, _, q, _⟩ := lent e1; exact ⟨d0, q⟩
      · exact ⟨d, by rw [← e]; exact h1⟩
    have o2 : ∃ d0, ρ[j]? = some (.ow d0) := by
      rcases wbk_get (ss := ss) (cs := cs) nd (lt h2) with ⟨n, d1, e1, e2, e3⟩ | ⟨_, e⟩
      · obtain ⟨v, d0, _, _, q, _⟩ := lent e1; exact ⟨d0, q⟩
      · exact ⟨d', by rw [← e]; exact h2⟩
    obtain ⟨d1, q1⟩ := o1
    obtain ⟨d2, q2⟩ := o2
    exact r.inj i j a d1 d2 q1 q2 h3 h4
  · by_cases hi : i < ρ.length
    · rcases wbk_get (ss := ss) (cs := cs) nd hi with ⟨n, d1, e1, e2, e3⟩ | ⟨_, e⟩
      · obtain ⟨v, d0, _, _, q, _⟩ := lent e1
        exact .inr ⟨d0, d1, q, e3⟩
      · exact .inl e
    · left
      rw [List.getElem?_eq_none (by rw [wbk_len]; omega), List.getElem?_eq_none (by omega)]
def wCallP (psp : PSp) (wa : WA) : WE := fun ρ q e => wa ρ (fun ss ρ1 => (slots ss).Nodup ∧ psp (ss.map (cellOf ρ1)) (fun d cs => q (.val d) (wbk ρ1 ss cs)) fun C ns vs cs => e C ns vs (wbk ρ1 ss cs)) e
def nCallP (psp : PSp) (wa : WA) : WN := fun ρ q e => wa ρ (fun ss ρ1 => (slots ss).Nodup ∧ psp (ss.map (cellOf ρ1)) (fun d cs => q d (wbk ρ1 ss cs)) fun C ns vs cs => e C ns vs (wbk ρ1 ss cs)) e
section
variable {n : Nat} {psp : PSp} {ta : TA} {wa : WA} {E : L2.St → XK}
/-- a call as the hand layer reads it, its errors wished for at the caller's slots -/
abbrev tCallS (sp : Sp) (E : L2.St → XK) (t : TA) : TE := fun σ H Q => t σ H fun vs H1 => sp vs H1 Q (E σ)
theorem exc_call {C : Str} {ns : List Str} {xs : List D} {dx : Option Addr} {H' : Hp} (hE : ∀ σ c d H, E σ c d H = W c d σ H) {eq : EQ} (rp : Rep G M ρ σ H) (g1 : Go G M σ ρ H ρ1 H1) {vs : List V} {ss : List Src} (r1 : RSs G M ρ1 σ H1 vs ss) (nd : (slots ss).Nodup) {cs : List Cell}
    (g : Go G M (vs.map some) (ss.map (cellOf ρ1)) H1 cs H') (th : Thr G M W σ ρ H eq) (hx : XdAt G M H' dx ns xs) (z : eq C ns xs (wbk ρ1 ss cs)) : E σ (.ref (G.cl C)) dx H' := by
  obtain ⟨a, b, c⟩ := go_call g1.rep r1 nd g g.rep (fun _ h => h) (g.fz (rep_args g1.rep r1 nd).1)
  rw [hE]
  exact th C ns xs _ dx H' (g1.trans ⟨a, b, c⟩) hx z
theorem se_callP (ha : SA G W ta wa) (hE : ∀ σ c d H, E σ c d H = W c d σ H) (hn : ∀ cells q eq, psp cells q eq → cells.length = n) : SE G W (tCallS (spP G n false psp) E ta) (wCallP psp wa) := by
  intro M ρ σ H q eq Q rp w k th
  refine ha M ρ σ H _ eq _ rp w (fun ss ρ1 vs H1 g1 r1 ⟨nd, w1⟩ => ?_) th
  obtain ⟨ra, nu⟩ := rep_args g1.rep r1 nd
  have hlen : vs.length = n := by rw [rss_len r1, ← hn _ _ _ w1, List.length_map]
  refine ⟨hlen, M, _, _, _, nu, ra, w1, fun d cs v H' g rd qq => ?_, fun C ns xs cs dx H' g hx z => exc_call hE rp g1 r1 nd g th hx z⟩
  obtain ⟨a, b, c⟩ := go_call g1.rep r1 nd g g.rep (fun _ h => h) (g.fz ra)
  exact k (.val d) _ v H' (g1.trans ⟨a, b, c⟩) rd qq
theorem sn_callP (ha : SA G W ta wa) (hE : ∀ σ c d H, E σ c d H = W c d σ H) (hn : ∀ cells q eq, psp cells q eq → cells.length = n) : SN G W (tCallS (spP G n true psp) E ta) (nCallP psp wa) := by
  intro M ρ σ H q eq Q rp w k th
  refine ha M ρ σ H _ eq _ rp w (fun ss ρ1 vs H1 g1 r1 ⟨nd, w1⟩ => ?_) th
  obtain ⟨ra, nu⟩ := rep_args g1.rep r1 nd
  have hlen : vs.length = n := by rw [rss_len r1, ← hn _ _ _ w1, List.length_map]
  refine ⟨hlen, M, _, _, _, nu, ra, w1, fun d cs v H' g rd qq => ?_, fun C ns xs cs dx H' g hx z => exc_call hE rp g1 r1 nd g th hx z⟩
  obtain ⟨a, b, c⟩ := go_call g1.rep r1 nd g g.rep (fun _ h => h) (g.fz ra)
  obtain ⟨p, rfl, np, h0, rn, ow⟩ := rd
  obtain ⟨a2, _, _⟩ := go_call g1.rep r1 nd g rn (fun _ h => List.mem_cons_of_mem _ h) fun b o h => by
    obtain ⟨nb, e, t⟩ := fz_of3 (g.fz ra b o h)
    refine fz_in (fun z => ?_) e t
    rcases List.mem_cons.mp z with z | z
    · have := (fz_of h).2; rw [z] at this; exact (h0 o this t).elim
    · exact nb z
  exact k d _ p H' (g1.trans ⟨a, b, c⟩) np (g1.isNew h0 rp) a2 ow qq
end
end
/-! ### the rules of a call -/
section
variable {X : Cx} {CXc : CXT} {k : Nat} {f : Addr} {fd : FuncData} {ps : List Str} {sp : Sp} {E : L2.St → XK} {x : Str} {p pos : Pos} {e : Expr} {es : List Expr} {t : TA}
theorem run_fnGS {pins : List (Addr × Obj)} {σ : L2.St} {H : Hp} {s : Shared} {Q : VK} {us : List Value} {vs : List V} (F : FnG X.prog X.w X.K X.mg X.base CXc k f fd ps sp) (hga : X.A.guards = some []) (hr : Room k X.A) (hb : Binds X.K fd ps []) (hx : PassesAt CXc X σ (E σ))
    (I : Inv X pins σ H s) (r : Vals vs us) (h : sp vs H Q (E σ)) : wpAny (model X.prog X.w) X.A (call (.ref f) us) (EP X pins σ Q) X.xe s := by
  have hl : (us ++ []).length = ps.length := by rw [List.append_nil, ← r.length]; exact F.len _ _ _ _ h
  have hb' := hb s us I.kIn hl
  rw [List.append_nil] at hb'
  refine wpAny_call (codeAny_mono (F.run X.A X.stack s H ⟨us, []⟩ us vs Q (E σ) hga hr I.env0 hb' r h) fun r s' hq => ?_)
  match r, hq with
  | .error e, hq => exact hx pins H s e s' I hq
  | .ok (.ret u), hq => exact I.after hq
theorem pe_callGS (F : FnG X.prog X.w X.K X.mg X.base CXc k f fd ps sp) (hga : X.A.guards = some []) (hr : Room k X.A) (hg : Gl X x) (hm : X.mg x = some (.ref f)) (hk : PySem.W.keepIn X.K (.ref f) = true) (hb : Binds X.K fd ps []) (hx : ∀ σ, PassesAt CXc X σ (E σ))
    (ha : PA X (e :: es) t) (hdb : (x == ("__debug__" : Str)) = false := by decide) (he : starEach (e :: es) X.env = (false, eval e X.env) :: starEach es X.env := by rfl) (hpl : (backTo pos (starEach es X.env)).any (·.1) = false := by rfl) :
    PE X (.Call (.Name x p) (e :: es) [] pos) (tCallS sp E t) := by
  constructor
  intro pins s σ H Q I h
  refine wpAny_Call_Name_kw (ld_glob I hg hm (PySem.W.callWith_K (h₀ := X.base) I.ok.mod.kin hk (thn (ha.run pos pins s σ H _ I h) ?_) he hpl) hdb)
  rintro us s1 ⟨vs, H1, I1, r, q⟩
  exact ⟨I1.kIn, run_fnGS F hga hr hb (hx σ) I1 r q⟩
theorem pe_callGS0 (F : FnG X.prog X.w X.K X.mg X.base CXc k f fd ps sp) (hga : X.A.guards = some []) (hr : Room k X.A) (hg : Gl X x) (hm : X.mg x = some (.ref f)) (hk : PySem.W.keepIn X.K (.ref f) = true) (hb : Binds X.K fd ps []) (hx : ∀ σ, PassesAt CXc X σ (E σ))
    (hdb : (x == ("__debug__" : Str)) = false := by decide) : PE X (.Call (.Name x p) [] [] pos) (tCallS sp E tNil) := by
  constructor
  intro pins s σ H Q I h
  exact wpAny_Call_Name_kw (ld_glob I hg hm (PySem.W.callWith_K0 I.kIn hk (run_fnGS (us := []) F hga hr hb (hx σ) I .nil h)) hdb)
end
section
variable {G : Gx} {X : Cx} {W : WX} {k n : Nat} {f : Addr} {fd : FuncData} {ps : List Str} {psp : PSp} {x : Str} {p pos : Pos} {e : Expr} {es : List Expr} {wa : WA}
/-- a def's promise, as the rules of calls take it -/
structure PFn (G : Gx) (P : Program) (wd : World) (mg : Str → Option Value) (base : Heap) (CXc : CXT) (k : Nat) (x : Str) (n : Nat) (new : Bool) (psp : PSp) : Prop where
  ex : ∃ (f : Addr) (fd : FuncData) (ps : List Str), FnG P wd G.K mg base CXc k f fd ps (spP G n new psp) ∧ mg x = some (.ref f) ∧ PySem.W.keepIn G.K (.ref f) = true ∧ Binds G.K fd ps []
  len : ∀ cells q eq, psp cells q eq → cells.length = n
theorem pass00 {X : Cx} {σ : L2.St} {E : XK} : PassesAt CX0 X σ E := fun _ _ _ _ _ _ h => h.elim
theorem px_callP (F : PFn G X.prog X.w X.mg X.base CX0 k x n false psp) (hga : X.A.guards = some []) (hr : Room k X.A) (hg : Gl X x) (ha : PXA G X W (e :: es) wa) (hK : X.K = G.K := by rfl) (hdb : (x == ("__debug__" : Str)) = false := by decide)
    (he : starEach (e :: es) X.env = (false, eval e X.env) :: starEach es X.env := by rfl) (hpl : (backTo pos (starEach es X.env)).any (·.1) = false := by rfl) : PX G X W (.Call (.Name x p) (e :: es) [] pos) (wCallP psp wa) := by
  obtain ⟨⟨f, fd, ps, F1, hm, hk, hb⟩, hn⟩ := F
  obtain ⟨ta, pa, sa⟩ := ha
  rw [← hK] at F1 hk hb
  exact ⟨_, pe_callGS (E := fun σ c d H => W c d σ H) F1 hga hr hg hm hk hb (fun _ => pass00) pa hdb he hpl, se_callP sa (fun _ _ _ _ => rfl) hn⟩
theorem px_callP0 (F : PFn G X.prog X.w X.mg X.base CX0 k x n false psp) (hga : X.A.guards = some []) (hr : Room k X.A) (hg : Gl X x) (hK : X.K = G.K := by rfl) (hdb : (x == ("__debug__" : Str)) = false := by decide) : PX G X W (.Call (.Name x p) [] [] pos) (wCallP psp wNil) := by
  obtain ⟨⟨f, fd, ps, F1, hm, hk, hb⟩, hn⟩ := F
  rw [← hK] at F1 hk hb
  exact ⟨_, pe_callGS0 (E := fun σ c d H => W c d σ H) F1 hga hr hg hm hk hb (fun _ => pass00) hdb, se_callP (ta := tNil) (fun M ρ σ H q eq Q rp w k _ => k [] ρ [] H (.refl rp) .nil w) (fun _ _ _ _ => rfl) hn⟩
theorem px_callX (F : PFn G X.prog X.w X.mg X.base (L2.CX X.prog X.w) k x n false psp) (tk : Takes X W) (hga : X.A.guards = some []) (hr : Room k X.A) (hg : Gl X x) (ha : PXA G X W (e :: es) wa) (hK : X.K = G.K := by rfl) (hdb : (x == ("__debug__" : Str)) = false := by decide)
    (he : starEach (e :: es) X.env = (false, eval e X.env) :: starEach es X.env := by rfl) (hpl : (backTo pos (starEach es X.env)).any (·.1) = false := by rfl) : PX G X W (.Call (.Name x p) (e :: es) [] pos) (wCallP psp wa) := by
  obtain ⟨⟨f, fd, ps, F1, hm, hk, hb⟩, hn⟩ := F
  obtain ⟨ta, pa, sa⟩ := ha
  rw [← hK] at F1 hk hb
  exact ⟨_, pe_callGS (E := fun σ c d H => W c d σ H) F1 hga hr hg hm hk hb (fun σ => passAt tk σ) pa hdb he hpl, se_callP sa (fun _ _ _ _ => rfl) hn⟩
theorem px_callX0 (F : PFn G X.prog X.w X.mg X.base (L2.CX X.prog X.w) k x n false psp) (tk : Takes X W) (hga : X.A.guards = some []) (hr : Room k X.A) (hg : Gl X x) (hK : X.K = G.K := by rfl) (hdb : (x == ("__debug__" : Str)) = false := by decide) : PX G X W (.Call (.Name x p) [] [] pos) (wCallP psp wNil) := by
  obtain ⟨⟨f, fd, ps, F1, hm, hk, hb⟩, hn⟩ := F
  rw [← hK] at F1 hk hb
  exact ⟨_, pe_callGS0 (E := fun σ c d H => W c d σ H) F1 hga hr hg hm hk hb (fun σ => passAt tk σ) hdb, se_callP (ta := tNil) (fun M ρ σ H q eq Q rp w k _ => k [] ρ [] H (.refl rp) .nil w) (fun _ _ _ _ => rfl) hn⟩
theorem pxn_callP (F : PFn G X.prog X.w X.mg X.base CX0 k x n true psp) (hga : X.A.guards = some []) (hr : Room k X.A) (hg : Gl X x) (ha : PXA G X W (e :: es) wa) (hK : X.K = G.K := by rfl) (hdb : (x == ("__debug__" : Str)) = false := by decide)
    (he : starEach (e :: es) X.env = (false, eval e X.env) :: starEach es X.env := by rfl) (hpl : (backTo pos (starEach es X.env)).any (·.1) = false := by rfl) : PXN G X W (.Call (.Name x p) (e :: es) [] pos) (nCallP psp wa) := by
  obtain ⟨⟨f, fd, ps, F1, hm, hk, hb⟩, hn⟩ := F
  obtain ⟨ta, pa, sa⟩ := ha
  rw [← hK] at F1 hk hb
  exact ⟨_, pe_callGS (E := fun σ c d H => W c d σ H) F1 hga hr hg hm hk hb (fun _ => pass00) pa hdb he hpl, sn_callP sa (fun _ _ _ _ => rfl) hn⟩
end
end Pu
/-! ### the pure layer: exceptions -/
namespace Pu
open PySem PySem.Spec PyProof.Rows L2 Lk Evl StX
section
variable {G : Gx} {X : Cx} {W : WX} {M : List Addr} {ρ ρ1 : Env} {σ : L2.St} {H H1 : Hp} {e : Expr} {es : List Expr} {pos p : Pos} {wa wr : WA} {we : WE}
/-! ### raise -/
def wRaise (C : Str) : WS := fun P ρ => P.ex C [] [] ρ
theorem py_raise {x m : Str} {j : Nat} {p p2 pos1 : Pos} (C : Str) (hc : X.calm = true) (tk : Takes X W) (q : PySem.W.excIn X.K (G.cl C) [.type "ValueError", .type "Exception", .type "BaseException", .type "object"] "ValueError.__new__" = true) (gC : X.mg x = some (.ref (G.cl C)))
    (kC : PySem.W.keepIn X.K (.ref (G.cl C)) = true) (r : Raises X (.ref (G.cl C))) (hg : Gl X x) (hdb : (x == ("__debug__" : Str)) = false := by decide) : PY G X W (.Raise (some (.Call (.Name x p) [.Constant (.str m) j p2] [] pos1)) none pos) (wRaise C) :=
  ⟨_, ps_raise hc tk (pmk_own PySem.F.excBase_ValueError q gC kC r hg hdb), fun c M ρ σ H Z P rs w k => k.ex C [] [] M ρ σ none H rs ⟨rfl, rfl⟩ w⟩
/-- an __init__ that keeps its one argument -/
def spInit1 (C : Addr) (f : Str) : Sp := fun vs H Q _ => ∃ (a : Addr) (y : V), vs = [.ref a, y] ∧ H a = some (exo a C none) ∧ ∀ dx, H dx = none → dx ≠ a → Q .non (upd (upd H dx (exd dx [(f, y)])) a (exo a C (some dx)))
def wRaise1 (C f : Str) (we : WE) : WS := fun P ρ => we ρ (fun s ρ1 => s.val' fun d => P.ex C [f] [d] ρ1) P.ex
theorem py_raise1 {x : Str} {p pos1 : Pos} {fI : Addr} {k : Nat} {fd : FuncData} {ps : List Str} (C f : Str) (hc : X.calm = true) (tk : Takes X W) (T : OexC X.K (G.cl C)) (iC : PySem.W.findIn X.K (.ref (G.cl C)) "__init__" = some (some (.ref fI))) (tI : PySem.W.typeIn X.K (.ref fI) = some (.type "function"))
    (F1 : FnOk X.prog X.w X.K X.mg X.base CX0 k fI fd ps (spInit1 (G.cl C) f)) (hr : Room (k + 1) X.A) (hb : Binds X.K fd ps []) (hg : Gl X x) (hm : X.mg x = some (.ref (G.cl C))) (he : PX G X W e we)
    (hdb : (x == ("__debug__" : Str)) = false := by decide) (h4 : starEach [e] X.env = (false, eval e X.env) :: starEach [] X.env := by rfl) (hpl : (backTo pos1 (starEach [] X.env)).any (·.1) = false := by rfl) :
    PY G X W (.Raise (some (.Call (.Name x p) [e] [] pos1)) none pos) (wRaise1 C f we) := by
  obtain ⟨te, pe, se⟩ := he
  refine ⟨_, ps_raise hc tk (pmk_oex T iC tI F1 hr hb .nil pass0 hg hm (pa_cons pe pa_nil h4) hdb h4 hpl), fun c M ρ σ H Z P rs w k => ?_⟩
  refine se M ρ σ H _ _ _ rs.rep w (fun s ρ1 v H1 g r1 w1 => ?_) (k.thr rs)
  obtain ⟨d, rd, w2⟩ := r1.val' w1
  refine ⟨by show 1 ≤ 1000; decide, fun a ha => ⟨a, v, rfl, upd_same, fun dx h1 h2 => ⟨rfl, dx, [(f, v)], upd_same, ?_, ?_, ?_⟩⟩⟩
  · rw [upd_ne h2, upd_same]
  · rw [upd_ne h2] at h1; exact h1
  · rw [upd_ne h2] at h1
    have ex : Ex H1 (upd (del (upd (upd (upd H1 a (exo a (G.cl C) none)) dx (exd dx [(f, v)])) a (exo a (G.cl C) (some dx))) a) dx (.xd [(f, v)])) := fun b o e => by
      have nb : b ≠ a := ne_of_none e ha
      have nd : b ≠ dx := ne_of_none e h1
      rw [upd_ne nd, del_ne nb, upd_ne nb, upd_ne nd, upd_ne nb]; exact e
    refine k.ex C [f] [d] M ρ1 σ (some dx) _ ((rs.go g).go (Go.ex g.rep ex)) ⟨[(f, v)], fz_in (g.rep.new h1) upd_same, rfl, .cons (rd.ex (fz_step ex)) .nil⟩ w2
/-! ### try -/
def catchP (G : Gx) : List (Str × WS) → PEnds → EQ
  | [], P => P.ex
  | (D, w) :: r, P => fun C ns vs ρ => ∃ b, G.sub C D = some b ∧ (b = true → w { P with ex := eq0 } ρ) ∧ (b = false → catchP G r P C ns vs ρ)
def wTry (G : Gx) (wb : WS) (l : List (Str × WS)) : WS := fun P ρ => wb { P with ex := catchP G l P } ρ
/-- the except clauses -/
inductive Hds (G : Gx) (X : Cx) : List ExceptHandler → List (Str × WS) → Prop where
  | nil : Hds G X [] []
  | cons {x C : Str} {w : WS} {b₀ : Stmt} {suite : List Stmt} {np pos' : Pos} {hds : List ExceptHandler} {l : List (Str × WS)} (hc : Names X x (.ref (G.cl C)))
      (hs : ∀ (a : Addr) (oe : Obj) (cls : Value) (d : Option Addr) (pn : List (Addr × Obj)), Zc cls d oe → (∃ vs, oe.data = .fields vs) → PYs G (X.suite a ((a, oe) :: pn)) W0 (b₀ :: suite) w) (r : Hds G X hds l) :
      Hds G X (.ExceptHandler (some (.Name x np)) none (b₀ :: suite) pos' :: hds) ((C, w) :: l)
def hdl (G : Gx) (l : List (Str × WS)) : List (Value × (Addr → Value → Option Addr → TS)) := l.map fun p => (.ref (G.cl p.1), fun _ _ _ => tOfS G W0 p.2)
theorem Hds.ok {hds : List ExceptHandler} {l : List (Str × WS)} (h : Hds G X hds l) : HdsOk X hds (hdl G l) := by
  induction h with
  | nil => exact .nil
  | cons hc hs _ ih => exact .cons hc (fun a oe cls d pn h1 h2 => (hs a oe cls d pn h1 h2).can) ih
theorem EndsOk.noex {c : Cxt} {Z : Ends} {P : PEnds} (k : EndsOk G W c Z P) : EndsOk G W0 c Z { P with ex := eq0 } := ⟨k.pins, k.nx, k.rt, k.rn, k.bk, k.ct, fun _ _ _ _ _ _ _ _ _ _ z => z⟩
theorem catch_ok {c : Cxt} {Z : Ends} {P : PEnds} (hK : X.K = G.K) (k : EndsOk G W c Z P) {C : Str} {ns : List Str} {vs : List D} {dx : Option Addr} (rs : RepS G c M ρ σ H) (hx : XdAt G M H dx ns vs) :
    ∀ {l : List (Str × WS)}, catchP G l P C ns vs ρ → wMany X.K W Z (hdl G l) (.ref (G.cl C)) dx σ H
  | [], h => k.ex C ns vs M ρ σ dx H rs hx h
  | (D, w) :: r, h => by
    obtain ⟨b, h1, h2, h3⟩ := h
    refine ⟨b, by rw [hK]; exact G.hsub C D b h1, fun hb a ha => ⟨c, M, ρ, _, rs, h2 hb, k.noex⟩, fun hb => catch_ok hK k rs hx (h3 hb)⟩
theorem py_try {body : List Stmt} {wb : WS} {h0 : ExceptHandler} {hds : List ExceptHandler} {l : List (Str × WS)} (hs : X.stack = X.env :: X.outer) (hf : X.env.frame = some X.env.locals) (tk : Takes X W)
    (hb : ∀ (W' : WX) (pn : List (Addr × Obj)) (xe : Value → Shared → Prop), Takes (X.tr pn xe) W' → PassesOwn (model X.prog X.w) X.A X.env xe → PYs G (X.tr pn xe) W' body wb) (hh : Hds G X (h0 :: hds) l) (hK : X.K = G.K := by rfl) :
    PY G X W (.Try body (h0 :: hds) [] [] pos) (wTry G wb l) := by
  refine ⟨_, ps_try_many (tb := fun W' => tOfS G W' wb) hs hf tk (fun W' pn xe h1 h2 => (hb W' pn xe h1 h2).can) hh.ok, fun c M ρ σ H Z P rs w k => ?_⟩
  exact ⟨c, M, ρ, _, rs, w, k.pins, k.nx, k.rt, k.rn, k.bk, k.ct, fun C ns vs M' ρ' σ' dx H' rs' hx h => catch_ok hK k rs' hx h⟩
/-! ### try .. except C as n -/
theorem rep_unset {c : Cxt} (r : RepS G c M ρ σ H) {i : Nat} (hp : i ∉ c.pins) : RepS G c M (List.set ρ i Cell.un) (List.set σ i none) H := by
  have old : ∀ {j : Nat} {c : Cell}, (List.set ρ i Cell.un)[j]? = some c → c ≠ .un → j ≠ i ∧ ρ[j]? = some c := fun {j c} h n => by
    rw [List.getElem?_set] at h
    by_cases e : i = j
    · rw [if_pos e] at h
      split at h
      · cases h; exact absurd rfl n
      · cases h
    · rw [if_neg e] at h; exact ⟨Ne.symm e, h⟩
  have up : ∀ {j : Nat}, j ≠ i → (List.set σ i none)[j]? = σ[j]? := fun {j} h => List.getElem?_set_ne (Ne.symm h)
  refine ⟨⟨by rw [List.length_set, List.length_set, r.rep.len], fun j d h => ?_, fun j d h => ?_, fun j k a d d' h1 h2 h3 h4 => ?_, r.rep.trk, r.rep.tab, r.rep.tm⟩, r.sub, r.kp, fun a ⟨j, d, h1, h2⟩ => ?_, fun j hj => ?_, r.old, r.new, r.tT, r.fr⟩
  · obtain ⟨n, e⟩ := old h (by simp)
    rw [up n]; exact r.rep.fz j d e
  · obtain ⟨n, e⟩ := old h (by simp)
    rw [up n]; exact r.rep.ow j d e
  · obtain ⟨n1, e1⟩ := old h1 (by simp)
    obtain ⟨n2, e2⟩ := old h2 (by simp)
    rw [up n1] at h3
    rw [up n2] at h4
    exact r.rep.inj j k a d d' e1 e2 h3 h4
  · obtain ⟨n, e⟩ := old h1 (by simp)
    rw [up n] at h2
    exact r.own a ⟨j, d, e, h2⟩
  · have n : j ≠ i := fun z => hp (by rw [← z]; exact hj)
    obtain ⟨e1, d, e2⟩ := r.pin j hj
    refine ⟨by rw [up n]; exact e1, d, ?_⟩
    rw [List.getElem?_set_ne (Ne.symm n)]; exact e2
/-- the ends of a suite whose name is dropped behind it -/
def PEnds.drop (P : PEnds) (i : Nat) : PEnds := { P with ex := eq0, nx := fun ρ => P.nx (List.set ρ i Cell.un), bk := fun ρ => P.bk (List.set ρ i Cell.un), ct := fun ρ => P.ct (List.set ρ i Cell.un) }
def wTryAs (G : Gx) (wb : WS) (D : Str) (i : Nat) (ws : Addr → Value → Option Addr → WS) : WS := fun P ρ => i ∉ P.pins ∧ wb { P with ex := fun C ns vs ρ' => ∃ b, G.sub C D = some b ∧
  (b = true → ∀ a dx, ws a (.ref (G.cl C)) dx (P.drop i) (List.set ρ' i (Cell.fz (.exc a C dx ns vs)))) ∧ (b = false → P.ex C ns vs ρ') } ρ
theorem py_tryAs {body suite : List Stmt} {b₀ : Stmt} {x n D : Str} {np pos' : Pos} {wb : WS} (i : Nat) {ws : Addr → Value → Option Addr → WS} (hs : X.stack = X.env :: X.outer) (hf : X.env.frame = some X.env.locals) (hN : X.N.Nodup) (hi : X.N[i]? = some n) (hln : X.env.kindOf n = some .local) (hc : Names X x (.ref (G.cl D))) (tk : Takes X W)
    (hb : ∀ (W' : WX) (pn : List (Addr × Obj)) (xe : Value → Shared → Prop), Takes (X.tr pn xe) W' → PassesOwn (model X.prog X.w) X.A X.env xe → PYs G (X.tr pn xe) W' body wb)
    (hsu : ∀ (a : Addr) (oe : Obj) (cls : Value) (d : Option Addr) (pn : List (Addr × Obj)), Zc cls d oe → (∃ vs, oe.data = .fields vs) → PYs G (X.suite a ((a, oe) :: pn)) W0 (b₀ :: suite) (ws a cls d)) (hK : X.K = G.K := by rfl) :
    PY G X W (.Try body [.ExceptHandler (some (.Name x np)) (some n) (b₀ :: suite) pos'] [] [] pos) (wTryAs G wb D i ws) := by
  refine ⟨_, ps_try_as (tb := fun W' => tOfS G W' wb) (ts := fun a cls d => tOfS G W0 (ws a cls d)) hs hf hN hi hln hc tk (fun W' pn xe h1 h2 => (hb W' pn xe h1 h2).can) (fun a oe cls d pn h1 h2 => (hsu a oe cls d pn h1 h2).can), fun c M ρ σ H Z P rs w k => ?_⟩
  obtain ⟨hp, w⟩ := w
  have hp' : i ∉ c.pins := by rw [← k.pins]; exact hp
  refine ⟨c, M, ρ, _, rs, w, k.pins, k.nx, k.rt, k.rn, k.bk, k.ct, fun C ns vs M' ρ' σ' dx H' rs' hx h => ?_⟩
  obtain ⟨b, h1, h2, h3⟩ := h
  refine ⟨b, by rw [hK]; exact G.hsub C D b h1, fun hb a ha => ?_, fun hb => k.ex C ns vs M' ρ' σ' dx H' rs' hx (h3 hb)⟩
  have rd : R G (Fz M' H') (.ref a) (.exc a C dx ns vs) := by
    cases dx with
    | none => obtain ⟨rfl, rfl⟩ := hx; exact .exc0 a C
    | some d => obtain ⟨fs, e1, e2, e3⟩ := hx; exact .exc1 e1 e2 e3
  refine ⟨c, M', _, P.drop i, rs'.diff (is := [i]) (rep_set rs'.rep rd) (Ex.refl _) diff_set (by intro j hj; rw [List.mem_singleton.mp hj]; exact hp'), h2 hb a dx, k.pins, fun M2 ρ2 σ2 H2 r2 q => k.nx M2 _ _ H2 (rep_unset r2 hp') q, k.rt, k.rn, fun M2 ρ2 σ2 H2 r2 q => k.bk M2 _ _ H2 (rep_unset r2 hp') q,
    fun M2 ρ2 σ2 H2 r2 q => k.ct M2 _ _ H2 (rep_unset r2 hp') q, fun _ _ _ _ _ _ _ _ _ _ z => z⟩
/-- e.f of an error that is held -/
def lookD : List Str → List D → Str → Option D
  | n :: ns, d :: ds, f => if f = n then some d else lookD ns ds f
  | _, _, _ => none
theorem lookD_r {H : Hp} {f : Str} {d : D} : ∀ {fs : List (Str × V)} {ds : List D}, RAll G H (fs.map (·.2)) ds → lookD (fs.map (·.1)) ds f = some d → ∃ v, fs.lookup f = some v ∧ R G H v d
  | [], _, _, h => by simp [lookD] at h
  | (n, v) :: fs, ds, ra, h => by
    rw [List.map_cons] at ra
    cases ra with | cons a t =>
    rw [List.map_cons, lookD] at h
    rw [List.lookup_cons]
    by_cases e : f = n
    · rw [if_pos e] at h
      cases h
      rw [beq_iff_eq.mpr e]
      exact ⟨v, rfl, a⟩
    · rw [if_neg e] at h
      rw [beq_eq_false_iff_ne.mpr e]
      exact lookD_r t h
def wXf (a : Addr) (cls : Value) (dx : Option Addr) (C f : Str) (G : Gx) (i : Nat) : WE := fun ρ q _ => match ρ[i]? with
  | some (.fz (.exc a' C' dx' ns vs)) => a' = a ∧ cls = .ref (G.cl C) ∧ dx' = dx ∧ ∃ d, lookD ns vs f = some d ∧ q (.val d) ρ
  | _ => False
theorem px_xf {a : Addr} {oe : Obj} {cls : Value} {d : Option Addr} {pn : List (Addr × Obj)} {x C f : Str} {px : Pos} (i : Nat) (T : XfC X.K (G.cl C)) (hno : PySem.W.findIn X.K (.ref (G.cl C)) f = some none) (hz : Zc cls d oe) (hf : ∃ vs, oe.data = .fields vs)
    (hv : PE (X.suite a ((a, oe) :: pn)) (.Name x px) (tVar i)) (hb : attributeBase (.Name x px) f X.env (eval (.Name x px) X.env) = eval (.Name x px) X.env := by rfl) : PX G (X.suite a ((a, oe) :: pn)) W (.Attribute (.Name x px) f pos) (wXf a cls d C f G i) := by
  refine ⟨_, pe_xf T hno hz hf hv hb, fun M ρ σ H q eq Q rp w k _ => ?_⟩
  unfold wXf at w
  split at w
  · rename_i a' C' dx' ns vs hi
    obtain ⟨rfl, hc, rfl, dd, hd, w⟩ := w
    obtain ⟨v, h1, h2⟩ := rp.fz i _ hi
    cases h2 with
    | exc0 => simp [lookD] at hd
    | exc1 e1 e2 e3 =>
      subst e2
      obtain ⟨u, l1, l2⟩ := lookD_r e3 hd
      exact ⟨_, h1, rfl, hc, _, _, u, rfl, (fz_of e1).2, l1, k (.val dd) ρ u H (.refl rp) l2 w⟩
  · exact w.elim
/-! ### stars -/
def dSeq (d : D) (k : List D → Prop) : Prop := match d with
  | .lst ds => k ds
  | .tup ds => k ds
  | _ => False
def wStar (we : WE) (wr : WA) : WA := fun ρ q e => we ρ (fun s ρ1 => s.gets ρ1 fun d => dSeq d fun ds => wr ρ1 (fun ss ρ2 => q (ds.map Src.val ++ ss) ρ2) e) e
theorem rss_vals : ∀ {xs : List V} {ds : List D}, RAll G (Fz M H) xs ds → RSs G M ρ σ H xs (ds.map Src.val)
  | _, _, .nil => .nil
  | _, _, .cons a t => .cons a (rss_vals t)
theorem rss_app : ∀ {xs ys : List V} {ss ts : List Src}, RSs G M ρ σ H xs ss → RSs G M ρ σ H ys ts → RSs G M ρ σ H (xs ++ ys) (ss ++ ts)
  | _, _, _, _, .nil, h => h
  | _, _, _, _, .cons a t, h => .cons a (rss_app t h)
theorem pxa_star {pst : Pos} (he : PX G X W e we) (hr : PXA G X W es wr) (hs : starEach (.Starred e pst :: es) X.env = (true, eval e X.env) :: starEach es X.env := by rfl) (hK : X.K = G.K := by rfl) : PXA G X W (.Starred e pst :: es) (wStar we wr) := by
  obtain ⟨te, pe, se⟩ := he
  obtain ⟨tr, pr, sr⟩ := hr
  refine ⟨_, pa_starK (K := G.K) pe pr hs hK, fun M ρ σ H q eq Q rp w k th => se M ρ σ H _ eq _ rp w (fun s ρ1 v H1 g1 r1 w1 => ?_) th⟩
  obtain ⟨d, a1, w2⟩ := r1.arg g1.rep w1
  have fin : ∀ (xs : List V) (ds : List D), RAll G (Fz M H1) xs ds → wr ρ1 (fun ss ρ2 => q (ds.map Src.val ++ ss) ρ2) eq → tr σ H1 fun ys H2 => Q (xs ++ ys) H2 := fun xs ds ra w3 =>
    sr M ρ1 σ H1 _ eq _ g1.rep w3 (fun ss ρ2 vs H2 g2 r2 w4 => k _ ρ2 _ H2 (g1.trans g2) (rss_app (rss_vals (ra.ex (g2.fz g1.rep))) r2) w4) (th.go g1)
  unfold dSeq at w2
  split at w2
  · obtain ⟨p, xs, rfl, h1, h2⟩ := a1.lst
    exact ⟨p, xs, rfl, .inr (SqL.of h1), fin xs _ h2 w2⟩
  · obtain ⟨p, xs, rfl, h1, h2, _⟩ := a1.tup
    exact ⟨p, xs, rfl, .inl h1, fin xs _ h2 w2⟩
  · exact w2.elim
end
end Pu
/-! ### the pure layer: chains, pairs, dicts -/
namespace Pu
open PySem PySem.Spec PyProof.Rows L2 Lk Evl StX
section
variable {G : Gx} {X : Cx} {W : WX} {M M1 : List Addr} {ρ ρ1 : Env} {σ : L2.St} {H H1 : Hp} {e a b c : Expr} {es : List Expr} {pos p : Pos} {wa wb wc we : WE}
/-! ### a op b op' c -/
def wChain (o1 o2 : Op2) (wa wb wc : WE) : WE := fun ρ q e => wa ρ (fun s1 ρ1 => wb ρ1 (fun s2 ρ2 => s1.gets ρ2 fun d1 => s2.gets ρ2 fun d2 => o1 d1 d2 fun d => dB d fun k =>
  if k = true then wc ρ2 (fun s3 ρ3 => s2.gets ρ3 fun d2 => s3.gets ρ3 fun d3 => o2 d2 d3 fun d => q (.val d) ρ3) e else q (.val (.bl false)) ρ2) e) e
theorem se_chain {ta tb tc : TE} {r r' : R2} {o1 o2 : Op2} (h1 : OpS G o1 r) (h2 : OpS G o2 r') (ha : SE G W ta wa) (hb : SE G W tb wb) (hc : SE G W tc wc) : SE G W (tChain r r' ta tb tc) (wChain o1 o2 wa wb wc) := by
  intro M ρ σ H q eq Q rp w k th
  refine ha M ρ σ H _ eq _ rp w (fun s1 ρ1 x H1 g1 r1 w1 => ?_) th
  refine hb M ρ1 σ H1 _ eq _ g1.rep w1 (fun s2 ρ2 y H2 g2 r2 w2 => ?_) (th.go g1)
  obtain ⟨d1, a1, w3⟩ := (r1.go g1.rep g2).arg g2.rep w2
  obtain ⟨d2, a2, w4⟩ := r2.arg g2.rep w3
  refine h1 M H2 x y d1 d2 _ g2.rep.tr a1 a2 w4 _ fun d v H3 e3 rd kd => ?_
  unfold dB at kd
  split at kd
  · rename_i k'
    refine ⟨k', rd.bl_inv, ?_⟩
    have g3 := Go.ex g2.rep e3
    have g13 := (g1.trans g2).trans g3
    cases k' with
    | false => rw [if_neg Bool.false_ne_true] at kd ⊢; exact k (.val (.bl false)) ρ2 _ H3 g13 (R.bl false) kd
    | true =>
      rw [if_pos rfl] at kd ⊢
      refine hc M ρ2 σ H3 _ eq _ g3.rep kd (fun s3 ρ3 z H4 g4 r4 w5 => ?_) (th.go g13)
      obtain ⟨d2', b1, w6⟩ := (r2.go g2.rep (g3.trans g4)).arg g4.rep w5
      obtain ⟨d3, b2, w7⟩ := r4.arg g4.rep w6
      exact h2 M H4 y z d2' d3 _ g4.rep.tr b1 b2 w7 Q fun d v H' e rd kd => k (.val d) ρ3 v H' ((g13.trans g4).then_ex e) rd kd
  · exact kd.elim
theorem px_chain {op op' : CmpOp} {r r' : R2} {o1 o2 : Op2} (ho : OpR X (compareOp op) r) (h1 : OpS G o1 r) (ho' : OpR X (compareOp op') r') (h2 : OpS G o2 r') (ha : PX G X W a wa) (hb : PX G X W b wb) (hc : PX G X W c wc)
    (hm : lastMarks [op, op'] [b, c] = false := by with_unfolding_all rfl) : PX G X W (.Compare a [op, op'] [b, c] pos) (wChain o1 o2 wa wb wc) := by
  obtain ⟨ta, pa, sa⟩ := ha
  obtain ⟨tb, pb, sb⟩ := hb
  obtain ⟨tc, pc, sc⟩ := hc
  exact ⟨_, pe_chain ho ho' pa pb pc hm, se_chain h1 h2 sa sb sc⟩
theorem pxt_chain {op op' : CmpOp} {r r' : R2} {o1 o2 : Op2} (ho : OpR X (compareOp op) r) (h1 : OpS G o1 r) (ho' : OpR X (compareOp op') r') (h2 : OpS G o2 r') (ha : PX G X W a wa) (hb : PX G X W b wb) (hc : PX G X W c wc)
    (hm : lastMarks [op, op'] [b, c] = false := by with_unfolding_all rfl) : PXT G X W (.Compare a [op, op'] [b, c] pos) (wB (wChain o1 o2 wa wb wc)) := by
  obtain ⟨ta, pa, sa⟩ := ha
  obtain ⟨tb, pb, sb⟩ := hb
  obtain ⟨tc, pc, sc⟩ := hc
  exact ⟨_, pt_chain ho ho' pa pb pc hm, st_b (se_chain h1 h2 sa sb sc)⟩
/-! ### xs.pop(i) -/
def wPop (i : Nat) : WE := wLm0 i fun ds k => ∃ y, ds[ds.length - 1]? = some y ∧ k ds.dropLast y
def mPopAt : LM := fun ds y k => match y with
  | .int i => -(2 ^ 63) ≤ i ∧ i < 2 ^ 63 ∧ ∃ n z, seqIndex? i ds.length = some n ∧ ds[n]? = some z ∧ k (ds.eraseIdx n) z
  | _ => False
theorem RAll.erase : ∀ {H : Hp} {vs : List V} {ds : List D} (n : Nat), RAll G H vs ds → RAll G H (vs.eraseIdx n) (ds.eraseIdx n)
  | _, _, _, _, .nil => .nil
  | _, _, _, 0, .cons _ t => t
  | _, _, _, n + 1, .cons h t => .cons h (t.erase n)
theorem popAt_m : LmS G mPopAt rPopAt := by
  intro M H l xs ds v y k hx hr ry h Q q
  unfold mPopAt at h
  split at h
  · obtain ⟨h1, h2, n, z, h3, h4, h5⟩ := h
    obtain ⟨u, e1, e2⟩ := hr.get h4
    exact ⟨l, xs, _, n, u, rfl, by rw [ry.int_inv], hx, h1, h2, by rw [hr.len]; exact h3, e1, q _ _ _ _ (hr.erase n) e2 h5⟩
  · exact h.elim
theorem popAt_ok : MtR X "list.pop" rPopAt := mt_popAt
/-! ### enumerate(list), zip, reversed -/
def enumD (ds : List D) : List D := ds.mapIdx fun i d => .tup [.int (i : Nat), d]
def dRun (d : D) (k : List D → Prop) : Prop := match d with
  | .lst ds => k ds
  | .sl ds => k ds
  | _ => False
/-- a list that stands -/
def Std (G : Gx) (M1 : List Addr) (H1 : Hp) (a : Addr) (xs : List V) : Prop := ∀ M H, Ex (Fz M1 H1) (Fz M H) → SqL G.K H a xs
theorem run_of {v : V} {d : D} {k : List D → Prop} (r : R G (Fz M H) v d) (h : dRun d k) : ∃ a xs ds, v = .ref a ∧ Std G M H a xs ∧ RAll G (Fz M H) xs ds ∧ k ds := by
  unfold dRun at h
  split at h
  · obtain ⟨a, xs, rfl, h1, h2⟩ := r.lst_inv
    exact ⟨a, xs, _, rfl, fun M' H' e => SqL.of (fz_ex _ _ _ _ (e _ _ h1)), h2, h⟩
  · obtain ⟨a, xs, rfl, h1, h2⟩ := r.sl_inv
    exact ⟨a, xs, _, rfl, fun M' H' e => sqL_ex (fz_ex _ _) (sqL_ex e h1), h2, h⟩
  · exact h.elim
theorem r_pair {T : Addr} {x y : V} {d d' : D} (t : Trk M H) (hT : H T = none) (h1 : R G (Fz M H) x d) (h2 : R G (Fz M H) y d') : R G (Fz M (upd H T (.tup [x, y]))) (.ref T) (.tup [d, d']) :=
  r_new_tup t hT (.cons h1 (.cons h2 .nil))
theorem fd_enum {a : Addr} {xs : List V} {ds : List D} (hs : Std G M1 H1 a xs) (h : RAll G (Fz M1 H1) xs ds) : Fd G M1 H1 (Ite G.K a) (enumD ds) := by
  have hl : (enumD ds).length = ds.length := by unfold enumD; rw [List.length_mapIdx]
  refine ⟨fun i M H e hi => ?_, fun i M H x H' e t hi y => ?_, fun M H e => ⟨xs, hs M H e, by rw [h.len, hl]; exact Nat.le_refl _⟩⟩
  · rw [hl] at hi
    exact ⟨xs, xs[i]'(by rw [h.len]; exact hi), hs M H e, List.getElem?_eq_getElem _⟩
  · obtain ⟨T, x', rfl, hT, rfl, y⟩ := y
    obtain ⟨d, e1, e2⟩ := h.get' (y xs (hs M _ e))
    refine ⟨Ex.new hT, .tup [.int (i : Nat), d], ?_, r_pair t hT (R.int _) (e2.ex e)⟩
    unfold enumD
    rw [List.getElem?_mapIdx, e1]; rfl
def wEnum (we : WE) : WI := fun ρ q e => we ρ (fun s ρ1 => s.val' fun d => dRun d fun ds => q (enumD ds) ρ1) e
theorem sa_one {te : TE} (he : SE G W te we) : SA G W (fun σ H Q => te σ H fun v H1 => Q [v] H1) (fun ρ q e => we ρ (fun s ρ1 => q [s] ρ1) e) := fun M ρ σ H q eq Q rp w k th =>
  he M ρ σ H _ eq _ rp w (fun s ρ1 v H1 g r1 w1 => k [s] ρ1 [v] H1 g (.cons r1 .nil) w1) th
theorem pxi_enum {elts : List Expr} {kk : Nat} {tpos : Pos} (hg : Gl X "enumerate") (hm : X.mg "enumerate" = none) (he : PX G X W e we) (hs : starEach [e] X.env = [(false, eval e X.env)] := by rfl) (hK : X.K = G.K := by rfl) :
    PXI G X W (.Tuple elts kk tpos) (.Call (.Name "enumerate" p) [e] [] pos) (wEnum we) := by
  obtain ⟨te, pe, se⟩ := he
  refine ⟨_, pi_enum hg hm (pa_cons pe pa_nil hs) hs, fun M ρ σ H q eq R rp w k th => ?_⟩
  refine se M ρ σ H _ eq _ rp w (fun s ρ1 v H1 g rs q => ?_) th
  obtain ⟨d, rd, q⟩ := rs.val' q
  obtain ⟨a, xs, ds, rfl, h1, h2, q⟩ := run_of rd q
  rw [hK]
  exact ⟨a, xs, rfl, h1 M H1 (Ex.refl _), k _ ρ1 H1 _ g (fd_enum h1 h2) q⟩
/-- zip of two lists, of two tuples -/
def zipD (xs ys : List D) : List D := (xs.zip ys).map fun p => .tup [p.1, p.2]
theorem zipD_get {xs ys : List D} {i : Nat} {x y : D} (h1 : xs[i]? = some x) (h2 : ys[i]? = some y) : (zipD xs ys)[i]? = some (.tup [x, y]) := by
  unfold zipD
  rw [List.getElem?_map, show (xs.zip ys)[i]? = some (x, y) from List.getElem?_zip_eq_some.mpr ⟨h1, h2⟩]; rfl
theorem zipD_len {xs ys : List D} : (zipD xs ys).length = min xs.length ys.length := by unfold zipD; rw [List.length_map, List.length_zip]
def dZip (x y : D) (k : List D → Prop) : Prop := match x, y with
  | .lst a, .lst b => k (zipD a b)
  | .tup a, .tup b => k (zipD a b)
  | _, _ => False
def wZip (wa wb : WE) : WI := fun ρ q e => wa ρ (fun s1 ρ1 => wb ρ1 (fun s2 ρ2 => s1.val' fun d1 => s2.val' fun d2 => dZip d1 d2 fun ds => q ds ρ2) e) e
theorem pxi_zip {elts : List Expr} {kk : Nat} {tpos : Pos} (hg : Gl X "zip") (hm : X.mg "zip" = none) (ha : PX G X W a wa) (hb : PX G X W b wb)
    (hs : starEach [a, b] X.env = (false, eval a X.env) :: starEach [b] X.env := by rfl) (hs2 : starEach [b] X.env = (false, eval b X.env) :: starEach [] X.env := by rfl) (hpl : (backTo pos (starEach [b] X.env)).any (·.1) = false := by rfl) (hK : X.K = G.K := by rfl) :
    PXI G X W (.Tuple elts kk tpos) (.Call (.Name "zip" p) [a, b] [] pos) (wZip wa wb) := by
  obtain ⟨ta, pa, sa⟩ := ha
  obtain ⟨tb, pb, sb⟩ := hb
  refine ⟨_, RZ.pi_zipA hg hm (pa_cons pa (pa_cons pb pa_nil hs2) hs) hs hpl, fun M ρ σ H q eq R rp w k th => ?_⟩
  refine sa M ρ σ H _ eq _ rp w (fun s1 ρ1 v H1 g1 r1 w1 => ?_) th
  refine sb M ρ1 σ H1 _ eq _ g1.rep w1 (fun s2 ρ2 u H2 g2 r2 w2 => ?_) (th.go g1)
  obtain ⟨d1, rd1, w3⟩ := (r1.go g1.rep g2).val' w2
  obtain ⟨d2, rd2, w4⟩ := r2.val' w3
  unfold dZip at w4
  rw [hK]
  split at w4
  · obtain ⟨x, xs, rfl, h1, h2⟩ := rd1.lst_inv
    obtain ⟨y, ys, rfl, h3, h4⟩ := rd2.lst_inv
    refine ⟨x, y, xs, ys, rfl, .inl ⟨SqL.of (fz_ex _ _ _ _ h1), SqL.of (fz_ex _ _ _ _ h3), k _ ρ2 H2 _ (g1.trans g2) ?_ w4⟩⟩
    have s1 : ∀ M H, Ex (Fz _ H2) (Fz M H) → SqL G.K H x xs := fun M H e => SqL.of (fz_ex _ _ _ _ (e _ _ h1))
    have s2 : ∀ M H, Ex (Fz _ H2) (Fz M H) → SqL G.K H y ys := fun M H e => SqL.of (fz_ex _ _ _ _ (e _ _ h3))
    refine ⟨fun i M H e hi => ?_, fun i M H v H' e t hi yl => ?_, fun M H e => ⟨xs, ys, s1 M H e, s2 M H e, by rw [h2.len, h4.len, zipD_len]; omega⟩⟩
    · rw [zipD_len] at hi
      exact ⟨xs, ys, xs[i]'(by rw [h2.len]; omega), ys[i]'(by rw [h4.len]; omega), s1 M H e, s2 M H e, List.getElem?_eq_getElem _, List.getElem?_eq_getElem _⟩
    · obtain ⟨T, x', y', rfl, hT, rfl, z1, z2⟩ := yl
      obtain ⟨e1, q1, q2⟩ := h2.get' (z1 xs (s1 M _ e))
      obtain ⟨e2, q3, q4⟩ := h4.get' (z2 ys (s2 M _ e))
      exact ⟨Ex.new hT, _, zipD_get q1 q3, r_pair t hT (q2.ex e) (q4.ex e)⟩
  · obtain ⟨x, xs, rfl, h1, h2⟩ := rd1.tup_inv
    obtain ⟨y, ys, rfl, h3, h4⟩ := rd2.tup_inv
    refine ⟨x, y, xs, ys, rfl, .inr ⟨sqT_ex (fz_ex _ _) h1, sqT_ex (fz_ex _ _) h3, k _ ρ2 H2 _ (g1.trans g2) ?_ w4⟩⟩
    have s1 : ∀ M H, Ex (Fz _ H2) (Fz M H) → SqT G.K H x xs := fun M H e => sqT_ex (fz_ex _ _) (sqT_ex e h1)
    have s2 : ∀ M H, Ex (Fz _ H2) (Fz M H) → SqT G.K H y ys := fun M H e => sqT_ex (fz_ex _ _) (sqT_ex e h3)
    refine ⟨fun i M H e hi => ?_, fun i M H v H' e t hi yl => ?_, fun M H e => ⟨xs, ys, s1 M H e, s2 M H e, by rw [h2.len, h4.len, zipD_len]; omega⟩⟩
    · rw [zipD_len] at hi
      exact ⟨xs, ys, xs[i]'(by rw [h2.len]; omega), ys[i]'(by rw [h4.len]; omega), s1 M H e, s2 M H e, List.getElem?_eq_getElem _, List.getElem?_eq_getElem _⟩
    · obtain ⟨T, x', y', rfl, hT, rfl, z1, z2⟩ := yl
      obtain ⟨e1, q1, q2⟩ := h2.get' (z1 xs (s1 M _ e))
      obtain ⟨e2, q3, q4⟩ := h4.get' (z2 ys (s2 M _ e))
      exact ⟨Ex.new hT, _, zipD_get q1 q3, r_pair t hT (q2.ex e) (q4.ex e)⟩
  · exact w4.elim
def wRev (we : WE) : WI := fun ρ q e => we ρ (fun s ρ1 => s.val' fun d => dRun d fun ds => q ds.reverse ρ1) e
theorem pxi_rev {tg : Expr} (hg : Gl X "reversed") (hm : X.mg "reversed" = none) (he : PX G X W e we) (hs : starEach [e] X.env = [(false, eval e X.env)] := by rfl) (hK : X.K = G.K := by rfl) : PXI G X W tg (.Call (.Name "reversed" p) [e] [] pos) (wRev we) := by
  obtain ⟨te, pe, se⟩ := he
  refine ⟨_, pi_reversed hg hm (pa_cons pe pa_nil hs) hs, fun M ρ σ H q eq R rp w k th => ?_⟩
  refine se M ρ σ H _ eq _ rp w (fun s ρ1 v H1 g rs q => ?_) th
  obtain ⟨d, rd, q⟩ := rs.val' q
  obtain ⟨a, xs, ds, rfl, h1, h2, q⟩ := run_of rd q
  rw [hK]
  refine ⟨a, xs, rfl, h1 M H1 (Ex.refl _), k _ ρ1 H1 _ g ?_ q⟩
  have hl : ds.reverse.length = xs.length := by rw [List.length_reverse, h2.len]
  refine ⟨fun i M H e hi => ?_, fun i M H x H' e t hi y => ?_, fun M H e => Nat.le_of_eq hl.symm⟩
  · rw [hl] at hi
    exact ⟨hi, xs, xs[xs.length - 1 - i]'(by omega), h1 M H e, List.getElem?_eq_getElem _⟩
  · rw [hl] at hi
    obtain ⟨rfl, y⟩ := y
    obtain ⟨d, e1, e2⟩ := h2.get' (y xs (h1 M _ e))
    refine ⟨Ex.refl _, d, ?_, e2.ex e⟩
    rw [List.getElem?_reverse (by rw [← h2.len]; exact hi), ← h2.len]; exact e1
end
end Pu
/-! ### the pure layer: dicts -/
namespace Pu
open PySem PySem.Spec PyProof.Rows L2 Lk Evl StX
def D.key : D → Option Key
  | .int i => some (.inl i)
  | .str x => some (.inr x)
  | _ => none
theorem key_r {G : Gx} {H : Hp} {k : Key} {d : D} (h : R G H (kV k) d) : d.key = some k := by
  cases k <;> cases h <;> rfl
theorem key_v {G : Gx} {H : Hp} {k : Key} {v : V} {d : D} (h : R G H v d) (e : d.key = some k) : v = kV k := by
  cases d <;> first | (cases e; done) | skip
  · cases e; exact h.int_inv
  · cases e; exact h.str_inv
section
variable {G : Gx} {X : Cx} {W : WX} {M : List Addr} {ρ ρ1 : Env} {σ : L2.St} {H H1 : Hp} {e a b c o : Expr} {es : List Expr} {pos p : Pos} {wa wb wc we : WE}
/-! ### displays -/
abbrev WD := Env → (List (D × D) → Env → Prop) → EQ → Prop
abbrev PRs (G : Gx) (H : Hp) : List (V × V) → List (D × D) → Prop := Paired fun p d => R G H p.1 d.1 ∧ R G H p.2 d.2
theorem PRs.ex {H' : Hp} (x : Ex H H') {ps : List (V × V)} {ds : List (D × D)} (h : PRs G H ps ds) : PRs G H' ps ds := by
  induction h with
  | nil => exact .nil
  | cons a _ ih => exact .cons ⟨a.1.ex x, a.2.ex x⟩ ih
structure PXD (G : Gx) (X : Cx) (W : WX) (pos : Pos) (ks : List (Option Expr)) (vs : List Expr) (w : WD) : Prop where
  ex : ∃ trs, PPs X pos ks vs trs ∧ ∀ M ρ σ H q eq Q, Rep G M ρ σ H → w ρ q eq → (∀ ds ρ' ps H', Go G M σ ρ H ρ' H' → PRs G (Fz M H') ps ds → q ds ρ' → Q ps H') → Thr G M W σ ρ H eq → tPairs trs σ H Q
def wdNil : WD := fun ρ q _ => q [] ρ
def wdCons (wa wb : WE) (wr : WD) : WD := fun ρ q e => wa ρ (fun s1 ρ1 => s1.val' fun k => wb ρ1 (fun s2 ρ2 => s2.val' fun v => wr ρ2 (fun ps ρ3 => q ((k, v) :: ps) ρ3) e) e) e
theorem pxd_nil : PXD G X W pos [] [] wdNil := ⟨[], pps_nil, fun M ρ σ H q eq Q rp w k _ => k [] ρ [] H (.refl rp) .nil w⟩
theorem pxd_cons {ks : List (Option Expr)} {vs : List Expr} {wr : WD} (ha : PX G X W a wa) (hb : PX G X W b wb) (hr : PXD G X W pos ks vs wr) : PXD G X W pos (some a :: ks) (b :: vs) (wdCons wa wb wr) := by
  obtain ⟨ta, pa, sa⟩ := ha
  obtain ⟨tb, pb, sb⟩ := hb
  obtain ⟨tr, pr, sr⟩ := hr
  refine ⟨(ta, tb) :: tr, pps_cons pa pb pr, fun M ρ σ H q eq Q rp w k th => ?_⟩
  refine sa M ρ σ H _ eq _ rp w (fun s1 ρ1 x H1 g1 r1 w1 => ?_) th
  obtain ⟨dk, rk, w1⟩ := r1.val' w1
  refine sb M ρ1 σ H1 _ eq _ g1.rep w1 (fun s2 ρ2 y H2 g2 r2 w2 => ?_) (th.go g1)
  obtain ⟨dv, rv, w2⟩ := r2.val' w2
  refine sr M ρ2 σ H2 _ eq _ g2.rep w2 (fun ds ρ3 ps H3 g3 r3 w3 => ?_) (th.go (g1.trans g2))
  exact k _ ρ3 _ H3 ((g1.trans g2).trans g3) (.cons ⟨(rk.ex (g2.fz g1.rep)).ex (g3.fz g2.rep), rv.ex (g3.fz g2.rep)⟩ r3) w3
theorem merge_app : ∀ {more kvs : List (Key × V)}, ((kvs ++ more).map (·.1)).Nodup → mergeK kvs more = kvs ++ more
  | [], kvs, _ => by simp [mergeK]
  | p :: more, kvs, h => by
    have hp : (kvs.any fun kv => decide (kv.1 = p.1)) = false := by
      rw [List.any_eq_false]
      intro x hx
      simp only [decide_eq_true_eq]
      intro e
      rw [List.map_append, List.nodup_append] at h
      exact h.2.2 x.1 (List.mem_map.mpr ⟨x, hx, rfl⟩) p.1 (by simp) e
    have e1 : putK kvs p.1 p.2 = kvs ++ [p] := by
      unfold putK
      rw [if_neg (by rw [hp]; exact Bool.false_ne_true)]
    show mergeK (putK kvs p.1 p.2) more = _
    rw [e1, merge_app (by rw [List.append_assoc]; exact h), List.append_assoc]; rfl
theorem pr_keys : ∀ {ps : List (V × V)} {ds : List (D × D)} {ks : List Key}, PRs G H ps ds → allM D.key (ds.map (·.1)) = some ks → ∃ kvs : List (Key × V), ps = kvs.map (fun kv => (kV kv.1, kv.2)) ∧ kvs.map (·.1) = ks ∧ RAll G H (kvs.map (fun p => kV p.1)) (ds.map (·.1)) ∧ RAll G H (kvs.map (·.2)) (ds.map (·.2))
  | _, _, ks, .nil, h => by cases h; exact ⟨[], rfl, rfl, .nil, .nil⟩
  | _, _, ks, .cons (a := p) (b := d) a t, h => by
    rw [List.map_cons, allM] at h
    split at h
    · rename_i k ks' e1 e2
      cases h
      obtain ⟨kvs, h1, h2, h3, h4⟩ := pr_keys t e2
      have ek := key_v a.1 e1
      refine ⟨(k, p.2) :: kvs, by rw [h1, List.map_cons, ← ek], by rw [List.map_cons, h2], ?_, .cons a.2 h4⟩
      rw [List.map_cons, List.map_cons]
      refine .cons ?_ h3
      rw [← ek]; exact a.1
    · cases h
/-- {k: v, ..}: keys texts or ints, each once -/
def nDisp (w : WD) : WN := fun ρ q e => w ρ (fun ds ρ1 => optK (allM D.key (ds.map (·.1))) fun ks => ks.length ≤ 15 ∧ ks.Nodup ∧ q (.dct (ds.map (·.1)) (ds.map (·.2))) ρ1) e
theorem pxn_disp {keys : List (Option Expr)} {values : List Expr} {w : WD} (h : PXD G X W pos keys values w) (hall : keys.all (·.isSome) = true) (hl : keys.length = values.length) (h0 : keys ≠ []) (h15 : keys.length ≤ 15) :
    PXN G X W (.Dict keys values pos) (nDisp w) := by
  obtain ⟨trs, pp, sp⟩ := h
  refine ⟨_, pe_disp pp hall hl h0 h15, fun M ρ σ H q eq Q rp w k th => ?_⟩
  intro l hp
  have nM : l ∉ M := rp.new hp
  have nS : ¬ Seen ρ σ l := fun z => nM (rp.seenM z)
  have rN := rep_new (o := .dK []) rp hp
  have kp0 : ∀ {H' : Hp}, Keep (Seen ρ σ) (upd H l (.dK [])) H' → Keep (Seen ρ σ) H H' := fun kp b o e n t => kp b o (by rw [upd_ne (ne_of_none e hp)]; exact e) n t
  refine sp (l :: M) ρ σ _ _ eq _ rN w (fun ds ρ' ps H2 g pr w2 => ?_) (fun C ns vs ρ' dx H' g x z => ?_)
  · have hl2 : H2 l = some (.dK []) := g.kp l _ upd_same nS (fun _ z => nomatch z)
    obtain ⟨ks, e1, h1, h2, w3⟩ := optK_of w2
    obtain ⟨kvs, e2, e3, r1, r2⟩ := pr_keys pr e1
    have em : mergeK [] kvs = kvs := by rw [merge_app (by rw [List.nil_append, e3]; exact h2), List.nil_append]
    refine ⟨hl2, kvs, e2, by rw [← List.length_map (f := (·.1)), e3]; exact h1, ?_⟩
    rw [em]
    have nS' : ¬ Seen ρ' σ l := fun z => nS (g.kin.seen.mp z)
    have rM := rep_mut (o := .dK kvs) g.rep nS' (pln_dK hl2)
    have fe : Fz (l :: M) (upd H2 l (.dK kvs)) = Fz (l :: M) H2 := fz_mut
    refine k (.dct (ds.map (·.1)) (ds.map (·.2))) ρ' l _ ⟨rep_less rM nS' (pln_dK upd_same), g.kin, fun b o e n t => ?_⟩ nM (.of hp) rM ⟨kvs, upd_same, ?_, ?_⟩ w3
    · rw [upd_ne (ne_of_none e hp)]
      exact kp0 g.kp b o e n t
    · rw [fe]; exact r1
    · rw [fe]; exact r2
  · have nS' : ¬ Seen ρ' σ l := fun z => nS (g.kin.seen.mp z)
    refine th C ns vs ρ' dx H' ⟨rep_less g.rep nS' (pln_dK (g.kp l _ upd_same nS (fun _ z => nomatch z))), g.kin, kp0 g.kp⟩ ?_ z
    have an : Ex (Fz (l :: M) H') (Fz M H') := fz_anti fun b hb => List.mem_cons_of_mem _ hb
    cases dx with
    | none => exact x
    | some d => obtain ⟨fs, x1, x2, x3⟩ := x; exact ⟨fs, an _ _ x1, x2, x3.ex an⟩
theorem pxn_d0 : PXN G X W (.Dict [] [] pos) (fun ρ q _ => q (.dct [] []) ρ) :=
  ⟨_, pe_dnewK, fun M ρ σ H q eq Q rp w k th l hp => k (.dct [] []) ρ l _ (Go.ex rp (Ex.new hp)) (rp.new hp) (.of hp) (rep_new rp hp) ⟨[], upd_same, .nil, .nil⟩ w⟩
def nD0 : WN := fun ρ q _ => q (.dct [] []) ρ
/-! ### d.get(k) -/
def dGetD : List D → List D → Key → Option D
  | k :: ks, v :: vs, x => if k.key = some x then some v else dGetD ks vs x
  | _, _, _ => none
theorem getD_r : ∀ {kvs : List (Key × V)} {ks vs : List D} {x : Key}, RAll G H (kvs.map (fun p => kV p.1)) ks → RAll G H (kvs.map (·.2)) vs → ((valV kvs x = none ∧ dGetD ks vs x = none) ∨ ∃ v d, valV kvs x = some v ∧ dGetD ks vs x = some d ∧ R G H v d)
  | [], _, _, x, h1, h2 => by cases h1; cases h2; exact .inl ⟨rfl, rfl⟩
  | p :: kvs, _, _, x, h1, h2 => by
    rw [List.map_cons] at h1 h2
    cases h1 with | cons a t =>
    cases h2 with | cons b u =>
    unfold dGetD
    rw [key_r a]
    by_cases e : p.1 = x
    · rw [if_pos (by rw [e])]
      exact .inr ⟨p.2, _, valV_pos e, rfl, b⟩
    · rw [if_neg (fun z => e (Option.some.inj z))]
      have hv : valV (p :: kvs) x = valV kvs x := by simp [valV, List.find?_cons, e]
      rw [hv]
      exact getD_r t u
def isDct : D → Prop
  | .dct _ _ => True
  | _ => False
def dGet1 (d y : D) (k : D → Prop) : Prop := match d, y.key with
  | .dct ks vs, some x => k ((dGetD ks vs x).getD .non)
  | _, _ => False
theorem Arg.dct {v : V} {ks vs : List D} (h : Arg G M H v (.dct ks vs)) : ∃ a kvs, v = .ref a ∧ Rd H a (.dK kvs) ∧ RAll G (Fz M H) (kvs.map (fun p => kV p.1)) ks ∧ RAll G (Fz M H) (kvs.map (·.2)) vs := by
  cases h with
  | fz h =>
    cases h with
    | dct h t u =>
      obtain ⟨kvs, h1, rfl, rfl⟩ := h
      exact ⟨_, kvs, rfl, rd_ex (fz_ex _ _) h1, t, u⟩
  | ow a e m h => obtain ⟨kvs, h1, h2, h3⟩ := h; exact ⟨a, kvs, e, .inl h1, h2, h3⟩
def wDget1 (wo wa : WE) : WE := fun ρ q e => wo ρ (fun s ρ1 => s.gets ρ1 fun d0 => isDct d0 ∧ wa ρ1 (fun s2 ρ2 => s.gets ρ2 fun d => s2.gets ρ2 fun y => dGet1 d y fun z => True ∧ q (.val z) ρ2) e) e
theorem isD_of {v : V} {d : D} (a : Arg G M H v d) (h : isDct d) : ∃ p, v = .ref p ∧ IsD H p := by
  cases d <;> first | exact h.elim | skip
  obtain ⟨p, kvs, rfl, h1, _⟩ := a.dct
  exact ⟨p, rfl, .inl ⟨kvs, h1⟩⟩
theorem px_dget1 {apos cpos : Pos} (hu : X.A.units + 1 < cLine) (ho : PX G X W o wa) (he : PX G X W e wb) (m : M1 X o "get" apos e cpos) : PX G X W (.Call (.Attribute o "get" apos) [e] [] cpos) (wDget1 wa wb) := by
  obtain ⟨ta, pa, sa⟩ := ho
  obtain ⟨tb, pb, sb⟩ := he
  refine ⟨_, pe_dget1 hu pa pb m, fun M ρ σ H q eq Q rp w k th => ?_⟩
  refine sa M ρ σ H _ eq _ rp w (fun s1 ρ1 x H1 g1 r1 w1 => ?_) th
  obtain ⟨d0, a0, i0, w2⟩ := r1.arg g1.rep w1
  obtain ⟨l, rfl, isd⟩ := isD_of a0 i0
  refine ⟨l, rfl, isd, ?_⟩
  refine sb M ρ1 σ H1 _ eq _ g1.rep w2 (fun s2 ρ2 y H2 g2 r2 w3 => ?_) (th.go g1)
  obtain ⟨d, a1, w4⟩ := (r1.go g1.rep g2).arg g2.rep w3
  obtain ⟨dy, a2, w5⟩ := r2.arg g2.rep w4
  unfold dGet1 at w5
  split at w5
  · rename_i ks vs z hz
    obtain ⟨l', kvs, e1, e2, e3, e4⟩ := a1.dct
    cases e1
    have ey := key_v a2.full hz
    refine ⟨valV kvs z, .inl ⟨kvs, z, e2, ey, rfl⟩, ?_⟩
    rcases getD_r (x := z) e3 e4 with ⟨n1, n2⟩ | ⟨u, d', n1, n2, n3⟩
    · rw [n2] at w5
      rw [n1]
      exact k (.val .non) ρ2 _ H2 (g1.trans g2) R.non w5.2
    · rw [n2] at w5
      rw [n1]
      exact k (.val d') ρ2 _ H2 (g1.trans g2) n3 w5.2
  · exact w5.elim
/-! ### a dict of the module -/
def KMapD (G : Gx) (wd : World) (a : Addr) (f : Str → Option D) : Prop := ∃ fv : Str → Option V, KMap G.K wd a fv ∧ ∀ z H, R G H ((fv z).getD .non) ((f z).getD .non)
def wKget (f : Str → Option D) (we : WE) : WE := fun ρ q e => we ρ (fun s ρ1 => s.gets ρ1 fun d => match d with
  | .str z => True ∧ q (.val ((f z).getD .non)) ρ1
  | _ => False) e
theorem px_kget {x : Str} {l : Addr} {apos cpos : Pos} {f : Str → Option D} (hk : KMapD G X.w l f) (hg : Gl X x) (hm : X.mg x = some (.ref l)) (he : PX G X W e we) (m : M1 X (.Name x p) "get" apos e cpos := by exact ⟨rfl, rfl, rfl, rfl⟩) (hd : (x == ("__debug__" : Str)) = false := by decide) (hK : X.K = G.K := by rfl) :
    PX G X W (.Call (.Attribute (.Name x p) "get" apos) [e] [] cpos) (wKget f we) := by
  obtain ⟨te, pe, se⟩ := he
  obtain ⟨fv, h1, h2⟩ := hk
  refine ⟨_, pe_kget (K := G.K) (w := X.w) (pe_glob (v := .ref l) hg hm rfl hd) pe m hK, fun M ρ σ H q eq Q rp w k th => ?_⟩
  refine ⟨l, fv, rfl, h1, se M ρ σ H _ eq _ rp w (fun s ρ1 v H1 g rs w1 => ?_) th⟩
  obtain ⟨d, a1, w2⟩ := rs.arg g.rep w1
  split at w2
  · exact ⟨_, a1.str, k (.val _) ρ1 _ H1 g (h2 _ _) w2.2⟩
  · exact w2.elim
end
end Pu
/-! ### the pure layer: how a reading is answered -/
namespace Pu
open PySem PySem.Spec PyProof.Rows L2 Lk Evl StX
def Pure (new : Bool) (n m : Nat) (psp : PSp) (w : WS) : Prop := ∀ cells q eq, cells.length = n → psp cells q eq → w (endsP new cells q fun _ _ _ _ => False) (cells ++ List.replicate (m - cells.length) .un)
def PureX (new : Bool) (n m : Nat) (psp : PSp) (w : WS) : Prop := ∀ cells q eq, cells.length = n → psp cells q eq → w (endsP new cells q eq) (cells ++ List.replicate (m - cells.length) .un)
def Len (n : Nat) (psp : PSp) : Prop := ∀ cells q eq, psp cells q eq → cells.length = n
theorem ite2 {c : Bool} {A B : Prop} (h1 : c = true → A) (h2 : c = false → B) : (if c = true then A else B) := by
  cases c with
  | true => rw [if_pos rfl]; exact h1 rfl
  | false => rw [if_neg Bool.false_ne_true]; exact h2 rfl
theorem np {i : Nat} {l : List Nat} (h : l.contains i = false) : i ∉ l := fun z => by
  rw [List.contains_iff_mem.mpr z] at h; cases h
theorem np1 {i : Nat} {l : List Nat} (h : l.contains i = false) : ∀ j ∈ [i], j ∉ l := fun j hj => by
  rw [List.mem_singleton.mp hj]; exact np h
theorem npl {is l : List Nat} (h : (is.any fun i => l.contains i) = false) : ∀ j ∈ is, j ∉ l := fun j hj z => by
  rw [List.any_eq_false] at h
  exact h j hj (List.contains_iff_mem.mpr z)
theorem nd1 {i : Nat} : [i].Nodup := by simp
theorem dec_t {p : Prop} [Decidable p] (h : decide p = true) : p := of_decide_eq_true h
theorem dec_f {p : Prop} [Decidable p] (h : decide p = false) : ¬ p := of_decide_eq_false h
/-- the slot that is given holds d -/
def Cell.has (c : Cell) (d : D) : Prop := c = .fz d ∨ c = .ow d
/-- what a value holds, one by one, of no great length -/
def D.items : D → Option (List D)
  | .lst ds => some ds
  | .tup ds => some ds
  | .str z => some (z.cps.toList.map sgnD)
  | _ => none
theorem idx_enum {ds : List D} {i : Nat} {x : D} (h : (enumD ds)[i]? = some x) : ∃ d, ds[i]? = some d ∧ x = .tup [.int (i : Nat), d] := by
  unfold enumD at h
  rw [List.getElem?_mapIdx] at h
  cases e : ds[i]? with
  | none => rw [e] at h; cases h
  | some d => rw [e] at h; exact ⟨d, rfl, (Option.some.inj h).symm⟩
theorem idx_zip {xs ys : List D} {i : Nat} {x : D} (h : (zipD xs ys)[i]? = some x) : ∃ a b, xs[i]? = some a ∧ ys[i]? = some b ∧ x = .tup [a, b] := by
  unfold zipD at h
  rw [List.getElem?_map] at h
  cases e : (xs.zip ys)[i]? with
  | none => rw [e] at h; cases h
  | some p =>
    rw [e] at h
    obtain ⟨h1, h2⟩ := List.getElem?_zip_eq_some.mp (show (xs.zip ys)[i]? = some (p.1, p.2) from e)
    exact ⟨p.1, p.2, h1, h2, (Option.some.inj h).symm⟩
theorem idx_rng {n i : Nat} {lo : Int} {x : D} (h : ((List.range n).map fun i => D.int (lo + (i : Nat)))[i]? = some x) : i < n ∧ x = .int (lo + (i : Nat)) := by
  rw [List.getElem?_map] at h
  by_cases hi : i < n
  · rw [List.getElem?_range hi] at h; exact ⟨hi, (Option.some.inj h).symm⟩
  · rw [List.getElem?_eq_none (by rw [List.length_range]; omega)] at h; cases h
theorem len_rng {n : Nat} {f : Nat → D} : ((List.range n).map f).length = n := by rw [List.length_map, List.length_range]
theorem idx_map {α : Type} {f : α → D} {xs : List α} {i : Nat} {x : D} (h : (xs.map f)[i]? = some x) : ∃ a, xs[i]? = some a ∧ x = f a := by
  rw [List.getElem?_map] at h
  cases e : xs[i]? with
  | none => rw [e] at h; cases h
  | some a => rw [e] at h; exact ⟨a, rfl, (Option.some.inj h).symm⟩
theorem take_snoc {α β : Type} {f : α → β} {xs : List α} {i : Nat} {x : α} (h : xs[i]? = some x) : ((xs.take i).map f) ++ [f x] = (xs.take (i + 1)).map f := by
  rw [List.take_add_one, h]; simp
/-! ### the dice -/
def isDice (d : D) : Prop := ∃ x y z : Int, d = .lst [.int x, .int y, .int z]
theorem isDice_mk (x y z : Int) : isDice (.lst [.int x, .int y, .int z]) := ⟨x, y, z, rfl⟩
def sp__law_roll : PSp := fun cells q _ => ∃ d t, cells = [.ow d, .fz (.int t)] ∧ isDice d ∧ 0 < t ∧ t < 2 ^ 200 ∧ ∀ d' r, isDice d' → 0 ≤ r → r < t → q (.int r) [.ow d', .fz (.int t)]
theorem len__law_roll : Len 2 sp__law_roll := fun cells q eq ⟨d, t, h, _⟩ => by rw [h]; rfl
/-- one of the items of a list, a tuple, a text -/
def sp__law_one_of : PSp := fun cells q _ => ∃ d c e ds, cells = [.ow d, c] ∧ isDice d ∧ c.has e ∧ e.items = some ds ∧ ds ≠ [] ∧ ds.length ≤ sizeLine ∧ ∀ d' x, isDice d' → x ∈ ds → q x [.ow d', c]
theorem len__law_one_of : Len 2 sp__law_one_of := fun cells q eq ⟨d, c, e, ds, h, _⟩ => by rw [h]; rfl
def sp__law_dice : PSp := fun cells q _ => ∃ (ns : List Int) (k : Nat), cells = [.fz (.sl (ns.map D.int)), .fz (.int k)] ∧ ∀ d, isDice d → q d [.fz (.sl (ns.map D.int)), .fz (.int k)]
theorem len__law_dice : Len 2 sp__law_dice := fun cells q eq ⟨ns, k, h, _⟩ => by rw [h]; rfl
def sp__law_all_signs : PSp := fun cells q _ => cells = [] ∧ q (.str (Str.ofString "#$0123:_abcdefg")) []
theorem len__law_all_signs : Len 0 sp__law_all_signs := fun cells q eq ⟨h, _⟩ => by rw [h]; rfl
/-- reading of _law_dice: slots 0:script 1:at 2:cell 3:great 4:mixed, owned - -/
def w__law_dice (G : Gx) : WS := (wSeq (wAsg [2] (wOp dAdd (wOp dMul (wC (.int 41)) (wName 1)) (wC (.int 13))) (wgName 2))
  (wSeq (wIfS (wB (wOp dLt (wName 1) (wCall (d1 dLen) (wCons (wName 0) wNil))))
  (wAsg [2] (wOp dIx (wName 0) (wName 1)) (wgName 2))
  wNext)
  (wSeq (wAsg [3] (wOp dMod (wCall (d1 dToInt) (wCons (wCall (d1 dAbs) (wCons (wName 2) wNil)) wNil)) (wOp dPow (wOp dPow (wC (.int 10)) (wC (.int 60))) (wC (.int 12)))) (wgName 3))
  (wSeq (wAsg [4] (wOp dAdd (wOp dAdd (wOp dAdd (wOp dMul (wOp dMod (wCall (d1 dToInt) (wCons (wName 3) wNil)) (wC (.int 2147483399))) (wC (.int 69623))) (wOp dMul (wC (.int 5003)) (wName 1))) (wOp dMul (wC (.int 23)) (wCall (d1 dToInt) (wCons (wOp dLt (wName 2) (wC (.int 0))) wNil)))) (wC (.int 59))) (wgName 4))
  (wRetNew (nLst (wCons (wCall (d2 dMax2) (wCons (wC (.int 0)) (wCons (wOp dSub (wName 3) (wOp dPow (wC (.int 10)) (wC (.int 18)))) wNil))) (wCons (wOp dMod (wCall (d1 dToInt) (wCons (wName 4) wNil)) (wC (.int 2305843009213693907))) (wCons (wC (.int 0)) wNil)))))))))
/-- reading of _law_roll: slots 0:dice 1:total 2:found 3:one 4:two, owned dice -/
def w__law_roll (G : Gx) : WS := (wSeq (wIfS (wB (wOp dGt (wOp dIx (wName 0) (wC (.int 0))) (wC (.int 0))))
  (wSeq (wAsg [2] (wOp dMod (wCall (d1 dToInt) (wCons (wOp dIx (wName 0) (wC (.int 0))) wNil)) (wName 1)) (wgName 2))
  (wSeq (wStore 0 (wOp dFdiv (wOp dIx (wName 0) (wC (.int 0))) (wName 1)) (wC (.int 0)))
  (wRet (wName 2))))
  wNext)
  (wSeq (wStore 0 (wOp dAdd (wOp dIx (wName 0) (wC (.int 2))) (wC (.int 1))) (wC (.int 2)))
  (wSeq (wAsg [3] (wOp dMod (wCall (d1 dToInt) (wCons (wOp dAdd (wOp dIx (wName 0) (wC (.int 1))) (wOp dMul (wC (.int 1000333)) (wOp dIx (wName 0) (wC (.int 2))))) wNil)) (wC (.int 2305843009213693951))) (wgName 3))
  (wSeq (wAsg [4] (wOp dAdd (wOp dMul (wOp dMod (wCall (d1 dToInt) (wCons (wOp dMul (wName 3) (wName 3)) wNil)) (wC (.int 2305843009213693921))) (wName 3)) (wOp dMul (wC (.int 9013)) (wOp dIx (wName 0) (wC (.int 2))))) (wgName 4))
  (wSeq (wAsg [4] (wOp dMod (wCall (d1 dToInt) (wCons (wName 4) wNil)) (wC (.int 2305843009213693907))) (wgName 4))
  (wRet (wOp dMod (wCall (d1 dToInt) (wCons (wOp dFdiv (wName 4) (wC (.int 16384))) wNil)) (wName 1))))))))
/-- reading of _law_one_of: slots 0:dice 1:items, owned dice -/
def w__law_one_of (G : Gx) : WS := (wRet (wOp dIx (wName 1) (wCallP sp__law_roll (wCons (wName 0) (wCons (wCall (d1 dLen) (wCons (wName 1) wNil)) wNil)))))
/-- reading of _law_all_signs: slots , owned - -/
def w__law_all_signs (G : Gx) : WS := (wRet (wC (.str (Str.ofString "#$0123:_abcdefg"))))
theorem pure__law_roll (G : Gx) : Pure false 2 5 sp__law_roll (w__law_roll G) := by
  intro cells q eq hl hp
  obtain ⟨d, t, rfl, ⟨x, y, z, rfl⟩, h0, h1, k⟩ := hp
  refine ⟨_, rfl, ite2 (fun hc => ?_) (fun hc => ?_)⟩
  · exact ⟨_, rfl, h0, np1 rfl, _, rfl, ⟨h0, h1⟩, _, rfl, rfl, k _ _ (isDice_mk _ _ _) (Int.emod_nonneg _ (Int.ne_of_gt h0)) (Int.emod_lt_of_pos _ h0)⟩
  · have b1 : ∀ u : Int, 0 ≤ u % 2305843009213693951 ∧ u % 2305843009213693951 < 2305843009213693951 := fun u => ⟨Int.emod_nonneg _ (by decide), Int.emod_lt_of_pos _ (by decide)⟩
    refine ⟨_, rfl, _, rfl, _, rfl, _, rfl, .inl ⟨by decide, by decide⟩, by decide, np1 rfl, ?_⟩
    obtain ⟨c1, c2⟩ := b1 (y + 1000333 * (z + 1))
    refine ⟨.inl ⟨by omega, by omega⟩, by decide, .inr ⟨by omega, by omega⟩, _, rfl, .inl ⟨by decide, by decide⟩, np1 rfl, by decide, np1 rfl, ⟨by decide, by decide⟩, h0, rfl, ?_⟩
    exact k _ _ (isDice_mk _ _ _) (Int.emod_nonneg _ (Int.ne_of_gt h0)) (Int.emod_lt_of_pos _ h0)
theorem ixN_nat {n i : Nat} (h : i < n) : ixN n (i : Int) = some i := by
  unfold ixN
  rw [if_pos (Int.natCast_nonneg i), if_pos (by exact_mod_cast h)]
  simp
theorem atI_nat {α : Type} {l : List α} {i : Nat} (h : i < l.length) : atI l (i : Int) = some l[i] := by
  unfold atI
  rw [ixN_nat h]
  exact List.getElem?_eq_getElem h
theorem atI_in {α : Type} {l : List α} {r : Int} (h0 : 0 ≤ r) (h1 : r < l.length) : ∃ x, atI l r = some x ∧ x ∈ l := by
  obtain ⟨n, rfl⟩ : ∃ n : Nat, r = n := ⟨r.toNat, (Int.toNat_of_nonneg h0).symm⟩
  have hn : n < l.length := by exact_mod_cast h1
  exact ⟨_, atI_nat hn, List.getElem_mem hn⟩
theorem pure__law_one_of (G : Gx) : Pure false 2 2 sp__law_one_of (w__law_one_of G) := by
  intro cells q eq hl hp
  obtain ⟨d, c, e, ds, rfl, hd, hc, hi, hne, hsz, k⟩ := hp
  have h0 : 0 < ds.length := List.length_pos_iff.mpr hne
  have hb : (ds.length : Int) < 2 ^ 200 := by
    have : ds.length ≤ 16777216 := hsz
    exact Int.lt_of_le_of_lt (show (ds.length : Int) ≤ 16777216 by omega) (by decide)
  cases e <;> first | (cases hi; done) | skip
  · rename_i x
    have e1 : ds = x.cps.toList.map sgnD := (Option.some.inj hi).symm
    have e2 : ds.length = x.length := by rw [e1, List.length_map]; simp [Str.length]
    rcases hc with rfl | rfl
    · refine ⟨by rw [← e2]; exact hsz, nd1, d, (x.length : Nat), rfl, hd, by omega, by rw [← e2]; exact hb, fun d' r hd' r0 r1 => ?_⟩
      refine ⟨by rw [← e2]; exact hsz, ?_⟩
      obtain ⟨y, h1, h2⟩ := atI_in (l := x.cps.toList) r0 (by rw [← e2, e1, List.length_map] at r1; exact r1)
      exact ⟨y, h1, rfl, k d' _ hd' (by rw [e1]; exact List.mem_map_of_mem h2)⟩
    · refine ⟨by rw [← e2]; exact hsz, nd1, d, (x.length : Nat), rfl, hd, by omega, by rw [← e2]; exact hb, fun d' r hd' r0 r1 => ?_⟩
      refine ⟨by rw [← e2]; exact hsz, ?_⟩
      obtain ⟨y, h1, h2⟩ := atI_in (l := x.cps.toList) r0 (by rw [← e2, e1, List.length_map] at r1; exact r1)
      exact ⟨y, h1, rfl, k d' _ hd' (by rw [e1]; exact List.mem_map_of_mem h2)⟩
  · cases hi
    rcases hc with rfl | rfl
    · refine ⟨nd1, d, (ds.length : Nat), rfl, hd, by omega, hb, fun d' r hd' r0 r1 => ?_⟩
      obtain ⟨y, h1, h2⟩ := atI_in r0 r1
      exact ⟨y, h1, rfl, k d' _ hd' h2⟩
    · refine ⟨nd1, d, (ds.length : Nat), rfl, hd, by omega, hb, fun d' r hd' r0 r1 => ?_⟩
      obtain ⟨y, h1, h2⟩ := atI_in r0 r1
      exact ⟨y, h1, rfl, k d' _ hd' h2⟩
  · cases hi
    rcases hc with rfl | rfl
    · refine ⟨nd1, d, (ds.length : Nat), rfl, hd, by omega, hb, fun d' r hd' r0 r1 => ?_⟩
      obtain ⟨y, h1, h2⟩ := atI_in r0 r1
      exact ⟨y, h1, rfl, k d' _ hd' h2⟩
    · refine ⟨nd1, d, (ds.length : Nat), rfl, hd, by omega, hb, fun d' r hd' r0 r1 => ?_⟩
      obtain ⟨y, h1, h2⟩ := atI_in r0 r1
      exact ⟨y, h1, rfl, k d' _ hd' h2⟩
theorem powb {i j : Int} (h0 : 0 ≤ j) (h : (Builtin.Int.intBits i : Int) * j ≤ 2 ^ 27) : CPowB i j := ⟨h0, h⟩
theorem mul64 {i j : Int} (h : -(2 ^ 64) < i ∧ i < 2 ^ 64) : CMul i j := .inl h
theorem mul64r {i j : Int} (h : -(2 ^ 64) < j ∧ j < 2 ^ 64) : CMul i j := .inr h
theorem pure__law_dice (G : Gx) : Pure true 2 5 sp__law_dice (w__law_dice G) := by
  intro cells q eq hl hp
  obtain ⟨ns, k, rfl, hq⟩ := hp
  have rest : ∀ v : Int, (wSeq (wAsg [3] (wOp dMod (wCall (d1 dToInt) (wCons (wCall (d1 dAbs) (wCons (wName 2) wNil)) wNil)) (wOp dPow (wOp dPow (wC (.int 10)) (wC (.int 60))) (wC (.int 12)))) (wgName 3))
  (wSeq (wAsg [4] (wOp dAdd (wOp dAdd (wOp dAdd (wOp dMul (wOp dMod (wCall (d1 dToInt) (wCons (wName 3) wNil)) (wC (.int 2147483399))) (wC (.int 69623))) (wOp dMul (wC (.int 5003)) (wName 1))) (wOp dMul (wC (.int 23)) (wCall (d1 dToInt) (wCons (wOp dLt (wName 2) (wC (.int 0))) wNil)))) (wC (.int 59))) (wgName 4))
  (wRetNew (nLst (wCons (wCall (d2 dMax2) (wCons (wC (.int 0)) (wCons (wOp dSub (wName 3) (wOp dPow (wC (.int 10)) (wC (.int 18)))) wNil))) (wCons (wOp dMod (wCall (d1 dToInt) (wCons (wName 4) wNil)) (wC (.int 2305843009213693907))) (wCons (wC (.int 0)) wNil)))))))
      (endsP true [.fz (.sl (ns.map D.int)), .fz (.int k)] q fun _ _ _ _ => False) [.fz (.sl (ns.map D.int)), .fz (.int k), .fz (.int v), .un, .un] := by
    intro v
    refine ⟨powb (by decide) (by decide +kernel), powb (by decide) (by decide +kernel), by decide +kernel, np1 rfl, by decide, mul64r (by decide), mul64 (by decide), mul64 (by decide), np1 rfl, powb (by decide) (by decide +kernel), by decide, Nat.le_of_ble_eq_true rfl, ?_⟩
    exact hq _ (isDice_mk _ _ _)
  refine ⟨mul64 (by decide), np1 rfl, ite2 (fun hc => ?_) (fun hc => ?_)⟩
  · have hk : k < (ns.map D.int).length := by
      have h := dec_t hc
      exact_mod_cast h
    refine ⟨_, atI_nat hk, np1 rfl, ?_⟩
    rw [List.getElem_map]
    exact rest _
  · exact rest _
theorem pure__law_all_signs (G : Gx) : Pure false 0 0 sp__law_all_signs (w__law_all_signs G) := by
  intro cells q eq hl hp
  obtain ⟨rfl, k⟩ := hp
  exact ⟨rfl, k⟩
end Pu
/-! ### the pure layer: comprehensions answered -/
namespace Pu
open PySem PySem.Spec PyProof.Rows L2 Lk Evl StX
section
variable {vs : List Nat} {wg : WG} {wt : WT} {we : WE} {ρ1 : Env} {q : D → Env → Prop}
/-- a comprehension whose inside changes no slot: item by item -/
theorem lc_fo {α : Type} {xs : List α} {g : α → D} (f : α → Option D) (hz : xs.length ≤ sizeLine)
    (ht : ∀ (a : α) (K1 : D → Env → Prop) (K2 : Env → Prop), a ∈ xs → (∀ y, f a = some y → K1 y (wipeE vs ρ1)) → (f a = none → K2 (wipeE vs ρ1)) →
      wg (g a) (wipeE vs ρ1) fun ρ2 => wt ρ2 (fun b ρ3 => if b = true then we ρ3 (fun s ρ4 => s.val' fun y => K1 y (wipeE vs ρ4)) eq0 else K2 (wipeE vs ρ3)) eq0)
    (hq : q (.lst (xs.filterMap f)) (backE vs ρ1 (wipeE vs ρ1))) (no : noOw vs ρ1 = true := by rfl) :
    LcOk vs wg wt we q (xs.map g) ρ1 := by
  refine ⟨no, fun i ys ρ' => ρ' = wipeE vs ρ1 ∧ ys = (xs.take i).filterMap f, ⟨rfl, rfl⟩, ?_, by rw [List.length_map]; exact hz, ?_⟩
  · rintro i d ys ρ' hd ⟨rfl, rfl⟩ _
    rw [List.getElem?_map] at hd
    cases e : xs[i]? with
    | none => rw [e] at hd; cases hd
    | some a =>
      rw [e] at hd
      cases hd
      refine ht a (fun y ρ4 => ρ4 = wipeE vs ρ1 ∧ (xs.take i).filterMap f ++ [y] = (xs.take (i + 1)).filterMap f) (fun ρ4 => ρ4 = wipeE vs ρ1 ∧ (xs.take i).filterMap f = (xs.take (i + 1)).filterMap f) (List.mem_of_getElem? e) (fun y hy => ⟨rfl, ?_⟩) (fun hn => ⟨rfl, ?_⟩)
      · rw [List.take_add_one, e, List.filterMap_append]; simp [hy]
      · rw [List.take_add_one, e, List.filterMap_append]; simp [hn]
  · rintro ys ρ' ⟨rfl, rfl⟩ _
    rw [List.length_map, List.take_length]
    exact hq
theorem fm_some {α : Type} (f : α → D) : ∀ xs : List α, xs.filterMap (fun a => some (f a)) = xs.map f
  | [] => rfl
  | x :: xs => by rw [List.filterMap_cons, List.map_cons, fm_some f xs]
/-- all items are kept -/
theorem lc_m {α : Type} {xs : List α} {g : α → D} (f : α → D) (hz : xs.length ≤ sizeLine)
    (ht : ∀ (a : α) (K1 : D → Env → Prop) (K2 : Env → Prop), a ∈ xs → K1 (f a) (wipeE vs ρ1) →
      wg (g a) (wipeE vs ρ1) fun ρ2 => wt ρ2 (fun b ρ3 => if b = true then we ρ3 (fun s ρ4 => s.val' fun y => K1 y (wipeE vs ρ4)) eq0 else K2 (wipeE vs ρ3)) eq0)
    (hq : q (.lst (xs.map f)) (backE vs ρ1 (wipeE vs ρ1))) (no : noOw vs ρ1 = true := by rfl) :
    LcOk vs wg wt we q (xs.map g) ρ1 :=
  lc_fo (fun a => some (f a)) hz (fun a K1 K2 ha k1 _ => ht a K1 K2 ha (k1 _ rfl)) (by rw [fm_some]; exact hq) no
theorem fm_flt {α : Type} (g : α → D) (p : α → Bool) : ∀ xs : List α, xs.filterMap (fun a => if p a = true then some (g a) else none) = (xs.filter p).map g
  | [] => rfl
  | x :: xs => by
    rw [List.filterMap_cons, List.filter_cons]
    by_cases h : p x = true
    · rw [if_pos h, if_pos h, List.map_cons, fm_flt g p xs]
    · rw [if_neg h, if_neg h, fm_flt g p xs]
/-- the items that a test lets -/
theorem lc_flt {α : Type} {xs : List α} {g : α → D} (p : α → Bool) (hz : xs.length ≤ sizeLine)
    (ht : ∀ (a : α) (K1 : D → Env → Prop) (K2 : Env → Prop), a ∈ xs → (p a = true → K1 (g a) (wipeE vs ρ1)) → (p a = false → K2 (wipeE vs ρ1)) →
      wg (g a) (wipeE vs ρ1) fun ρ2 => wt ρ2 (fun b ρ3 => if b = true then we ρ3 (fun s ρ4 => s.val' fun y => K1 y (wipeE vs ρ4)) eq0 else K2 (wipeE vs ρ3)) eq0)
    (hq : q (.lst ((xs.filter p).map g)) (backE vs ρ1 (wipeE vs ρ1))) (no : noOw vs ρ1 = true := by rfl) :
    LcOk vs wg wt we q (xs.map g) ρ1 :=
  lc_fo (fun a => if p a = true then some (g a) else none) hz (fun a K1 K2 ha k1 k2 => ht a K1 K2 ha (fun h => k1 _ (by rw [if_pos h])) (fun h => k2 (by rw [if_neg (by rw [h]; exact Bool.false_ne_true)]))) (by rw [fm_flt]; exact hq) no
theorem lc_fo' {ds : List D} (f : D → Option D) (hz : ds.length ≤ sizeLine)
    (ht : ∀ (a : D) (K1 : D → Env → Prop) (K2 : Env → Prop), a ∈ ds → (∀ y, f a = some y → K1 y (wipeE vs ρ1)) → (f a = none → K2 (wipeE vs ρ1)) →
      wg a (wipeE vs ρ1) fun ρ2 => wt ρ2 (fun b ρ3 => if b = true then we ρ3 (fun s ρ4 => s.val' fun y => K1 y (wipeE vs ρ4)) eq0 else K2 (wipeE vs ρ3)) eq0)
    (hq : q (.lst (ds.filterMap f)) (backE vs ρ1 (wipeE vs ρ1))) (no : noOw vs ρ1 = true := by rfl) :
    LcOk vs wg wt we q ds ρ1 := by
  have h := lc_fo (xs := ds) (g := id) f hz ht hq no
  rw [List.map_id] at h
  exact h
theorem lc_f {ds : List D} (f : D → D) (hz : ds.length ≤ sizeLine)
    (ht : ∀ (a : D) (K1 : D → Env → Prop) (K2 : Env → Prop), a ∈ ds → K1 (f a) (wipeE vs ρ1) →
      wg a (wipeE vs ρ1) fun ρ2 => wt ρ2 (fun b ρ3 => if b = true then we ρ3 (fun s ρ4 => s.val' fun y => K1 y (wipeE vs ρ4)) eq0 else K2 (wipeE vs ρ3)) eq0)
    (hq : q (.lst (ds.map f)) (backE vs ρ1 (wipeE vs ρ1))) (no : noOw vs ρ1 = true := by rfl) :
    LcOk vs wg wt we q ds ρ1 :=
  lc_fo' (fun a => some (f a)) hz (fun a K1 K2 ha k1 _ => ht a K1 K2 ha (k1 _ rfl)) (by rw [fm_some]; exact hq) no
end
theorem all_m {α : Type} {xs : List α} {p : α → Bool} {k : D → Prop} (h : k (.bl (xs.all p))) : dAll (.lst (xs.map fun a => .bl (p a))) k := by
  refine ⟨?_⟩
  have e : (xs.map fun a => D.bl (p a)) = (xs.map p).map D.bl := by rw [List.map_map]; rfl
  simp only [e, allB, optK]
  rw [List.all_map]; exact h
theorem any_m {α : Type} {xs : List α} {p : α → Bool} {k : D → Prop} (h : k (.bl (xs.any p))) : dAny (.lst (xs.map fun a => .bl (p a))) k := by
  refine ⟨?_⟩
  have e : (xs.map fun a => D.bl (p a)) = (xs.map p).map D.bl := by rw [List.map_map]; rfl
  simp only [e, allB, optK]
  rw [List.any_map]; exact h
theorem join_m {s : Str} {xs : List Str} {k : D → Prop} (h : (xs.map (·.length)).sum + xs.length * s.length ≤ 16777216) (hk : k (.str (Txt.join s xs))) : dJoin (.str s) (.lst (xs.map D.str)) k := by
  refine ⟨?_⟩
  simp only [allS, optK]
  exact ⟨h, hk⟩
theorem vals_cons {d : D} {ss : List Src} {k : List D → Prop} (h : ValsD ss fun es => k (d :: es)) : ValsD (.val d :: ss) k := ⟨h.ok⟩
theorem vals_star {ss : List Src} {k : List D → Prop} : ∀ {ds : List D}, ValsD ss (fun es => k (ds ++ es)) → ValsD (ds.map Src.val ++ ss) k
  | [], h => h
  | d :: ds, h => vals_cons (vals_star (ds := ds) (k := fun es => k (d :: es)) h)
theorem vals_all {k : List D → Prop} {ds : List D} (h : k ds) : ValsD (ds.map Src.val ++ []) k := vals_star (by
  refine ⟨?_⟩
  show k (ds ++ [])
  rw [List.append_nil]; exact h)
theorem gets_star {ρ : Env} {ss : List Src} {k : List D → Prop} : ∀ {ds : List D}, gets2 ρ ss (fun es => k (ds ++ es)) → gets2 ρ (ds.map Src.val ++ ss) k
  | [], h => h
  | d :: ds, h => gets_star (ds := ds) (k := fun es => k (d :: es)) h
theorem lenOk {α : Type} {l : List α} (h : Nat.ble l.length sizeLine = true := by rfl) : l.length ≤ sizeLine := Nat.le_of_ble_eq_true h
theorem ltOk {i n : Nat} (h : Nat.ble (i + 1) n = true := by rfl) : i < n := Nat.le_of_ble_eq_true h
theorem len_enum {ds : List D} : (enumD ds).length = ds.length := by unfold enumD; rw [List.length_mapIdx]
theorem ifF {c : Bool} {A B : Prop} (h : B) (e : c = false := by rfl) : (if c = true then A else B) := by rw [if_neg (by rw [e]; exact Bool.false_ne_true)]; exact h
theorem ifT {c : Bool} {A B : Prop} (h : A) (e : c = true := by rfl) : (if c = true then A else B) := by rw [if_pos e]; exact h
end Pu
/-! ### the pure layer: defs that ask no guards; lambdas -/
namespace Pu
open PySem PySem.Spec PyProof.Rows L2 Lk Evl StX
section
variable {G : Gx} {P : Program} {wd : World} {mg : Str → Option Value} {base : Heap} {k : Nat} {f : Addr} {fd : FuncData} {N ps : List Str} {x qual : Str} {st : Stmt} {psp : PSp} {new : Bool} {w : WS}
theorem fnPk (F : Fun G.K x qual st f fd) (S : FnScope N ps (defScope st)) (hn : ps.length ≤ N.length)
    (hb : ∀ (cdv : Value) (A : Around) (outer : List PySem.Env) (s : Shared) (H : Hp) (E : XK), Room k (A.deeper (envOfC qual (defScope st) s.heap.objs.size f cdv)) →
      PYs G (cxOf CX0 P wd G.K mg base N qual (defScope st) f cdv A outer s H E).nox W0 (defBody st) w)
    (hw : Pure new ps.length N.length psp w) : FnOk P wd G.K mg base CX0 (k + 1) f fd ps (spP G ps.length new psp) := by
  refine Fun.ok F S (fun vs H Q E h => h.1) (fun cdv A outer s H vs Q E hr h => ?_)
  obtain ⟨hl, M, cells, q, eq, nu, rp, hp, hq, he⟩ := h
  obtain ⟨t, pt, stt⟩ := hb cdv A outer s H E hr
  have hl' : vs.length ≤ N.length := by rw [hl]; exact hn
  have hc : cells.length = ps.length := by rw [rp.len, List.length_map, hl]
  exact ⟨t, pt, stt _ M _ _ H _ _ (reps_start rp hl') (hw cells q eq hc hp) (ends_ok rp hl' hq fun _ _ _ _ _ _ _ _ _ z => z)⟩
theorem fnXk (F : Fun G.K x qual st f fd) (S : FnScope N ps (defScope st)) (hn : ps.length ≤ N.length)
    (hb : ∀ (cdv : Value) (A : Around) (outer : List PySem.Env) (s : Shared) (H : Hp) (E : XK), Room k (A.deeper (envOfC qual (defScope st) s.heap.objs.size f cdv)) →
      PYs G (cxOf (L2.CX P wd) P wd G.K mg base N qual (defScope st) f cdv A outer s H E) (fun cls d _ H => E cls d H) (defBody st) w)
    (hw : PureX new ps.length N.length psp w) : FnOk P wd G.K mg base (L2.CX P wd) (k + 1) f fd ps (spP G ps.length new psp) := by
  refine Fun.okX F S (fun vs H Q E h => h.1) (fun cdv A outer s H vs Q E hr h => ?_)
  obtain ⟨hl, M, cells, q, eq, nu, rp, hp, hq, he⟩ := h
  obtain ⟨t, pt, stt⟩ := hb cdv A outer s H E hr
  have hl' : vs.length ≤ N.length := by rw [hl]; exact hn
  have hc : cells.length = ps.length := by rw [rp.len, List.length_map, hl]
  exact ⟨t, pt, stt _ M _ _ H _ _ (reps_start rp hl') (hw cells q eq hc hp) (ends_ok rp hl' hq fun C ns xs cs _ dx H' g hx z => he C ns xs cs dx H' g hx z)⟩
/-- a def whose code object is known by its place: it makes lambdas -/
theorem fnPc {c : Addr} (F : Fun G.K x qual st f fd) (hcd : fd.code = .ref c) (S : FnScope N ps (defScope st)) (hn : ps.length ≤ N.length)
    (hb : ∀ (A : Around) (outer : List PySem.Env) (s : Shared) (H : Hp) (E : XK), (A.deeper (envOfC qual (defScope st) s.heap.objs.size f (.ref c))).guards = some [] → Room k (A.deeper (envOfC qual (defScope st) s.heap.objs.size f (.ref c))) →
      PYs G (cxOf CX0 P wd G.K mg base N qual (defScope st) f (.ref c) A outer s H E).nox W0 (defBody st) w)
    (hw : Pure new ps.length N.length psp w) : FnG P wd G.K mg base CX0 (k + 1) f fd ps (spP G ps.length new psp) := by
  refine Fun.okGC F hcd S (fun vs H Q E h => h.1) (fun A outer s H vs Q E hga hr h => ?_)
  obtain ⟨hl, M, cells, q, eq, nu, rp, hp, hq, he⟩ := h
  obtain ⟨t, pt, stt⟩ := hb A outer s H E hga hr
  have hl' : vs.length ≤ N.length := by rw [hl]; exact hn
  have hc : cells.length = ps.length := by rw [rp.len, List.length_map, hl]
  exact ⟨t, pt, stt _ M _ _ H _ _ (reps_start rp hl') (hw cells q eq hc hp) (ends_ok rp hl' hq fun _ _ _ _ _ _ _ _ _ z => z)⟩
/-- the promise of a def that asks no guards -/
structure PFnK (G : Gx) (P : Program) (wd : World) (mg : Str → Option Value) (base : Heap) (CXc : CXT) (k : Nat) (x : Str) (n : Nat) (new : Bool) (psp : PSp) : Prop where
  ex : ∃ (f : Addr) (fd : FuncData) (ps : List Str), FnOk P wd G.K mg base CXc k f fd ps (spP G n new psp) ∧ mg x = some (.ref f) ∧ PySem.W.keepIn G.K (.ref f) = true ∧ Binds G.K fd ps []
  len : Len n psp
theorem PFnK.g {CXc : CXT} {n : Nat} (F : PFnK G P wd mg base CXc k x n new psp) : PFn G P wd mg base CXc k x n new psp := by
  obtain ⟨⟨f, fd, ps, h1, h2⟩, h3⟩ := F
  exact ⟨⟨f, fd, ps, .of h1, h2⟩, h3⟩
end
section
variable {X : Cx} {CXc : CXT} {k : Nat} {f : Addr} {fd : FuncData} {ps : List Str} {sp : Sp} {E : L2.St → XK} {x : Str} {p pos : Pos} {e : Expr} {es : List Expr} {t : TA}
theorem run_fnKS {pins : List (Addr × Obj)} {σ : L2.St} {H : Hp} {s : Shared} {Q : VK} {us : List Value} {vs : List V} (F : FnOk X.prog X.w X.K X.mg X.base CXc k f fd ps sp) (hr : Room k X.A) (hb : Binds X.K fd ps []) (hx : PassesAt CXc X σ (E σ))
    (I : Inv X pins σ H s) (r : L2.Vals vs us) (h : sp vs H Q (E σ)) : wpAny (model X.prog X.w) X.A (call (.ref f) us) (EP X pins σ Q) X.xe s := by
  have hl : (us ++ []).length = ps.length := by rw [List.append_nil, ← r.length]; exact F.len _ _ _ _ h
  have hb' := hb s us I.kIn hl
  rw [List.append_nil] at hb'
  refine wpAny_call (codeAny_mono (F.run X.A X.stack s H ⟨us, []⟩ us vs Q (E σ) hr I.env0 hb' r h) fun r s' hq => ?_)
  match r, hq with
  | .error e, hq => exact hx pins H s e s' I hq
  | .ok (.ret u), hq => exact I.after hq
theorem pe_callKS (F : FnOk X.prog X.w X.K X.mg X.base CXc k f fd ps sp) (hr : Room k X.A) (hg : Gl X x) (hm : X.mg x = some (.ref f)) (hk : PySem.W.keepIn X.K (.ref f) = true) (hb : Binds X.K fd ps []) (hx : ∀ σ, PassesAt CXc X σ (E σ))
    (ha : PA X (e :: es) t) (hdb : (x == ("__debug__" : Str)) = false := by decide) (he : starEach (e :: es) X.env = (false, eval e X.env) :: starEach es X.env := by rfl) (hpl : (backTo pos (starEach es X.env)).any (·.1) = false := by rfl) :
    PE X (.Call (.Name x p) (e :: es) [] pos) (tCallS sp E t) := by
  constructor
  intro pins s σ H Q I h
  refine wpAny_Call_Name_kw (ld_glob I hg hm (PySem.W.callWith_K (h₀ := X.base) I.ok.mod.kin hk (thn (ha.run pos pins s σ H _ I h) ?_) he hpl) hdb)
  rintro us s1 ⟨vs, H1, I1, r, q⟩
  exact ⟨I1.kIn, run_fnKS F hr hb (hx σ) I1 r q⟩
theorem pe_callKS0 (F : FnOk X.prog X.w X.K X.mg X.base CXc k f fd ps sp) (hr : Room k X.A) (hg : Gl X x) (hm : X.mg x = some (.ref f)) (hk : PySem.W.keepIn X.K (.ref f) = true) (hb : Binds X.K fd ps []) (hx : ∀ σ, PassesAt CXc X σ (E σ))
    (hdb : (x == ("__debug__" : Str)) = false := by decide) : PE X (.Call (.Name x p) [] [] pos) (tCallS sp E tNil) := by
  constructor
  intro pins s σ H Q I h
  exact wpAny_Call_Name_kw (ld_glob I hg hm (PySem.W.callWith_K0 I.kIn hk (run_fnKS (us := []) F hr hb (hx σ) I .nil h)) hdb)
end
section
variable {G : Gx} {X : Cx} {W : WX} {k n : Nat} {f : Addr} {fd : FuncData} {ps : List Str} {psp : PSp} {x : Str} {p pos : Pos} {e : Expr} {es : List Expr} {wa : WA}
theorem px_callPk (F : PFnK G X.prog X.w X.mg X.base CX0 k x n false psp) (hr : Room k X.A) (hg : Gl X x) (ha : PXA G X W (e :: es) wa) (hK : X.K = G.K := by rfl) (hdb : (x == ("__debug__" : Str)) = false := by decide)
    (he : starEach (e :: es) X.env = (false, eval e X.env) :: starEach es X.env := by rfl) (hpl : (backTo pos (starEach es X.env)).any (·.1) = false := by rfl) : PX G X W (.Call (.Name x p) (e :: es) [] pos) (wCallP psp wa) := by
  obtain ⟨⟨f, fd, ps, F1, hm, hk, hb⟩, hn⟩ := F
  obtain ⟨ta, pa, sa⟩ := ha
  rw [← hK] at F1 hk hb
  exact ⟨_, pe_callKS (E := fun σ c d H => W c d σ H) F1 hr hg hm hk hb (fun _ => pass00) pa hdb he hpl, se_callP sa (fun _ _ _ _ => rfl) hn⟩
theorem px_callPk0 (F : PFnK G X.prog X.w X.mg X.base CX0 k x n false psp) (hr : Room k X.A) (hg : Gl X x) (hK : X.K = G.K := by rfl) (hdb : (x == ("__debug__" : Str)) = false := by decide) : PX G X W (.Call (.Name x p) [] [] pos) (wCallP psp wNil) := by
  obtain ⟨⟨f, fd, ps, F1, hm, hk, hb⟩, hn⟩ := F
  rw [← hK] at F1 hk hb
  exact ⟨_, pe_callKS0 (E := fun σ c d H => W c d σ H) F1 hr hg hm hk hb (fun _ => pass00) hdb, se_callP (ta := tNil) (fun M ρ σ H q eq Q rp w k _ => k [] ρ [] H (.refl rp) .nil w) (fun _ _ _ _ => rfl) hn⟩
theorem px_callXk (F : PFnK G X.prog X.w X.mg X.base (L2.CX X.prog X.w) k x n false psp) (tk : Takes X W) (hr : Room k X.A) (hg : Gl X x) (ha : PXA G X W (e :: es) wa) (hK : X.K = G.K := by rfl) (hdb : (x == ("__debug__" : Str)) = false := by decide)
    (he : starEach (e :: es) X.env = (false, eval e X.env) :: starEach es X.env := by rfl) (hpl : (backTo pos (starEach es X.env)).any (·.1) = false := by rfl) : PX G X W (.Call (.Name x p) (e :: es) [] pos) (wCallP psp wa) := by
  obtain ⟨⟨f, fd, ps, F1, hm, hk, hb⟩, hn⟩ := F
  obtain ⟨ta, pa, sa⟩ := ha
  rw [← hK] at F1 hk hb
  exact ⟨_, pe_callKS (E := fun σ c d H => W c d σ H) F1 hr hg hm hk hb (fun σ => passAt tk σ) pa hdb he hpl, se_callP sa (fun _ _ _ _ => rfl) hn⟩
theorem pxn_callPk (F : PFnK G X.prog X.w X.mg X.base CX0 k x n true psp) (hr : Room k X.A) (hg : Gl X x) (ha : PXA G X W (e :: es) wa) (hK : X.K = G.K := by rfl) (hdb : (x == ("__debug__" : Str)) = false := by decide)
    (he : starEach (e :: es) X.env = (false, eval e X.env) :: starEach es X.env := by rfl) (hpl : (backTo pos (starEach es X.env)).any (·.1) = false := by rfl) : PXN G X W (.Call (.Name x p) (e :: es) [] pos) (nCallP psp wa) := by
  obtain ⟨⟨f, fd, ps, F1, hm, hk, hb⟩, hn⟩ := F
  obtain ⟨ta, pa, sa⟩ := ha
  rw [← hK] at F1 hk hb
  exact ⟨_, pe_callKS (E := fun σ c d H => W c d σ H) F1 hr hg hm hk hb (fun _ => pass00) pa hdb he hpl, sn_callP sa (fun _ _ _ _ => rfl) hn⟩
end
/-! ### lambdas -/
section
variable {G : Gx} {X : Cx} {W : WX} {M : List Addr} {ρ : Env} {σ : L2.St} {H H1 : Hp}
theorem go_tabs (r : Rep G M ρ σ H) (e : LamX.ExtN H H1) (t : LamX.Tabs G.tabs H1) : Go G M σ ρ H ρ H1 := by
  have fe : Ex (Fz M H) (Fz M H1) := fun b o h => let ⟨n, q, k⟩ := fz_of3 h; fz_in n (e b o q k) k
  have oe : ∀ {a d}, Own G M H a d → Own G M H1 a d := fun {a d} h => by
    cases d <;> first | exact h.elim | skip
    · obtain ⟨xs, h1, h2⟩ := h; exact ⟨xs, e _ _ h1 (fun _ z => nomatch z), h2.ex fe⟩
    · obtain ⟨kvs, h1, h2, h3⟩ := h; exact ⟨kvs, e _ _ h1 (fun _ z => nomatch z), h2.ex fe, h3.ex fe⟩
    · obtain ⟨dx, fs, h1, h2, h3⟩ := h; exact ⟨dx, fs, e _ _ h1 (fun _ z => nomatch z), h2, h3.ex fe⟩
  refine ⟨⟨r.len, fun i d h => ?_, fun i d h => ?_, r.inj, fun a ha => ?_, t, r.tm⟩, .refl _, fun b o h _ k => e b o h k⟩
  · obtain ⟨v, h1, h2⟩ := r.fz i d h; exact ⟨v, h1, h2.ex fe⟩
  · obtain ⟨a, h1, h2, h3⟩ := r.ow i d h; exact ⟨a, h1, h2, oe h3⟩
  · obtain ⟨o, ho, k | k⟩ := r.trk a ha
    · exact ⟨o, e _ _ ho k, .inl k⟩
    · obtain ⟨p, hp, rfl⟩ := k
      obtain ⟨ps, h1, _⟩ := t p hp
      exact ⟨_, h1, .inr ⟨p, hp, rfl⟩⟩
/-- what a def that calls its lambda makes of it: its two handlers' words, the word of none -/
def wLam2 (G : Gx) (C1 r1 C2 r2 r3 : Str) (wb : WE) : WE := fun ρ q _ => wb ρ (fun _ ρ1 => q (.val (.str r3)) ρ1)
  fun C _ _ ρ1 => ∃ b, G.sub C C1 = some b ∧ (b = true → q (.val (.str r1)) ρ1) ∧ (b = false → ∃ b2, G.sub C C2 = some b2 ∧ b2 = true ∧ q (.val (.str r2)) ρ1)
theorem px_lam2 {x a q0 e1 e2 r1 r2 r3 C1 C2 : Str} {st : Stmt} {g c Pt : Addr} {fd : FuncData} {k : Nat} {Ng : List Str} {params : Arguments} {body : Expr} {scope : Scope} {p lpos pos : Pos} {wb : WE} {j1 j2 j3 : Nat} {p1 p2 p3 p4 p5 p6 p7 p8 p9 p10 p11 p12 p13 p14 : Pos}
    (F : Fun X.K x x st g fd) (hg : Gl X x) (hm : X.mg x = some (.ref g)) (hb : L2.Binds X.K fd [a] []) (Sg : FnScope Ng [a] (defScope st)) (hNg : Ng[0]? = some a) (hva : Vis (defScope st) a) (hq : X.env.qual = q0)
    (hst : defBody st = [.Try [.Expr (.Call (.Name a p1) [] [] p2) p3] [.ExceptHandler (some (.Name e1 p4)) none [.Return (some (.Constant (.str r1) j1 p5)) p6] p7, .ExceptHandler (some (.Name e2 p8)) none [.Return (some (.Constant (.str r2) j2 p9)) p10] p11] [] [] p12, .Return (some (.Constant (.str r3) j3 p13)) p14])
    (hg1 : (defScope st).names.lookup e1 = some .globalImplicit) (hm1 : X.mg e1 = some (.ref (G.cl C1))) (hg2 : (defScope st).names.lookup e2 = some .globalImplicit) (hm2 : X.mg e2 = some (.ref (G.cl C2))) (hd1 : (e1 == ("__debug__" : Str)) = false) (hd2 : (e2 == ("__debug__" : Str)) = false)
    (h0 : ∀ f : Addr, (L2.start Ng [V.ref f])[0]? = some (some (V.ref f)))
    (TB : LamX.TabB X.base X.mg c Pt) (hcode : X.env.code = .ref c) (hmT : (Pt, q0 ++ "<lambda>") ∈ G.tabs) (hu : ∀ p ∈ G.tabs, p.1 = Pt → p.2 = q0 ++ "<lambda>") (hr : Room (k + 2) X.A) (L : LamX.LamS X.env.scope scope) (hdef : defaultsOf params X.env = ([], []))
    (hbind : ∀ (q : Str) (cl : List (Str × Addr)) (pm cv ctv : Value), bindArgs (PySem.W.kla_fn "<lambda>" q params body scope cl pm cv ctv) ⟨[], []⟩ = pure [])
    (hbody : ∀ (A : Around) (outer : List PySem.Env) (s : Shared) (H : Hp) (E : XK) (f c' : Addr), Room k (A.deeper (LamX.lamEnv X scope s.heap.objs.size f c')) → PX G (LamX.lamCx X A outer s H E scope f c') (fun cls d _ H => E cls d H) body wb)
    (hK : X.K = G.K := by rfl) (hdb : (x == ("__debug__" : Str)) = false := by decide) (hd : (a == ("__debug__" : Str)) = false := by decide) (hcd : (a == ("__classdict__" : Str)) = false := by decide) :
    PX G X W (.Call (.Name x p) [.Lambda params body scope lpos] [] pos) (wLam2 G C1 r1 C2 r2 r3 wb) := by
  refine ⟨_, pe_lamF (T := G.tabs) (t := fun E => tOf G (fun cls d _ H => E cls d H) wb) (k := k) F hg hm hb Sg hNg hva hq (fun cdv => by rw [hst]; exact word_gives (C1 := G.cl C1) (C2 := G.cl C2) hg1 hm1 hg2 hm2 hd1 hd2 h0) TB hcode hmT hu hr L hdef hbind
    (fun A outer s H E f c' h => (hbody A outer s H E f c' h).can) hdb hd hcd, fun M ρ σ H q eq Q rp w k _ => ⟨rp.tab, fun H1 e1 t1 => ?_⟩⟩
  have g1 := go_tabs rp e1 t1
  refine ⟨M, ρ, _, _, g1.rep, w, fun s ρ' v H' g _ qq => k (.val (.str r3)) ρ' _ H' (g1.trans g) (R.str r3) qq, fun C ns vs ρ' dx H' g hx hh => ?_⟩
  obtain ⟨b, b1, b2, b3⟩ := hh
  refine ⟨b, by rw [hK]; exact G.hsub _ _ _ b1, fun hb' => k (.val (.str r1)) ρ' _ H' (g1.trans g) (R.str r1) (b2 hb'), fun hb' => ?_⟩
  obtain ⟨c, c1, c2, c3⟩ := b3 hb'
  exact ⟨c, by rw [hK]; exact G.hsub _ _ _ c1, fun _ => k (.val (.str r2)) ρ' _ H' (g1.trans g) (R.str r2) c3, fun z => by rw [c2] at z; cases z⟩
end
end Pu
/-! ### the pure layer: a new container beside a value; a new container handed to a def -/
namespace Pu
open PySem PySem.Spec PyProof.Rows L2 Lk Evl StX
section
variable {G : Gx} {X : Cx} {W : WX} {M : List Addr} {ρ ρ1 ρ2 : Env} {σ : L2.St} {H H1 H2 : Hp} {e a b : Expr} {es : List Expr} {pos p : Pos} {wn : WN} {wa : WA} {wb we : WE}
theorem Own.keep {l : Addr} {d : D} (h : Own G M H l d) (hl : H1 l = H l) (e : Ex (Fz M H) (Fz M H1)) : Own G M H1 l d := by
  cases d <;> first | exact h.elim | skip
  · obtain ⟨xs, h1, h2⟩ := h; exact ⟨xs, by rw [hl]; exact h1, h2.ex e⟩
  · obtain ⟨kvs, h1, h2, h3⟩ := h; exact ⟨kvs, by rw [hl]; exact h1, h2.ex e, h3.ex e⟩
  · obtain ⟨dx, fs, h1, h2, h3⟩ := h; exact ⟨dx, fs, by rw [hl]; exact h1, h2, h3.ex e⟩
/-- what is evaluated while a new container stands aside -/
theorem go_aside {l : Addr} {d : D} (n : l ∉ M) (rp : Rep G M ρ1 σ H1) (ow : Own G (l :: M) H1 l d) (g : Go G (l :: M) σ ρ1 H1 ρ2 H2) : Go G M σ ρ1 H1 ρ2 H2 ∧ Own G (l :: M) H2 l d := by
  have nS : ¬ Seen ρ1 σ l := fun z => n (rp.seenM z)
  have nS2 : ¬ Seen ρ2 σ l := fun z => nS (g.kin.seen.mp z)
  obtain ⟨o, ho, nt, ne⟩ := ow.pl
  have h2 := g.kp l o ho nS nt
  have fe : Ex (Fz (l :: M) H1) (Fz (l :: M) H2) := fun b u h => by
    obtain ⟨m, q, t⟩ := fz_of3 h
    exact fz_in m (g.kp b u q (fun z => m (List.mem_cons_of_mem _ (rp.seenM z))) t) t
  exact ⟨⟨rep_less g.rep nS2 ⟨o, h2, nt, ne⟩, g.kin, g.kp⟩, ow.keep (by rw [h2, ho]) fe⟩
theorem thr_aside {l : Addr} {d : D} {eq : EQ} (n : l ∉ M) (rp : Rep G M ρ1 σ H1) (ow : Own G (l :: M) H1 l d) (th : Thr G M W σ ρ1 H1 eq) : Thr G (l :: M) W σ ρ1 H1 eq := fun C ns vs ρ' dx H' g x z => by
  obtain ⟨g', _⟩ := go_aside n rp ow g
  refine th C ns vs ρ' dx H' g' ?_ z
  have an : Ex (Fz (l :: M) H') (Fz M H') := fz_anti fun b hb => List.mem_cons_of_mem _ hb
  cases dx with
  | none => exact x
  | some d => obtain ⟨fs, x1, x2, x3⟩ := x; exact ⟨fs, an _ _ x1, x2, x3.ex an⟩
/-- x, y = a new container, a value -/
def wParN (i j : Nat) (wn : WN) (wb : WE) : WS := fun P ρ => wn ρ (fun d ρ1 => wb ρ1 (fun s ρ2 => s.val' fun y => i ∉ P.pins ∧ j ∉ P.pins ∧ i < ρ2.length ∧ P.nx ((List.set ρ2 i (Cell.ow d)).set j (.fz y))) P.ex) P.ex
theorem py_parN (i j : Nat) {x y : Str} {px py pt : Pos} {kt k2 pt2} (hc : X.calm = true) (hN : X.N.Nodup) (hi : X.N[i]? = some x) (hj : X.N[j]? = some y) (hij : i ≠ j)
    (hx : X.env.scope.names.lookup x = some .local) (hy : X.env.scope.names.lookup y = some .local) (ha : PXN G X W a wn) (hb : PX G X W b wb)
    (hw : swappedStores [.Tuple [.Name x px, .Name y py] kt pt] (.Tuple [a, b] k2 pt2) X.env = pure (some [x, y]) := by rfl)
    (hs : swapsWithSole [.Tuple [.Name x px, .Name y py] kt pt] (.Tuple [a, b] k2 pt2) pos.line X.env = pure false := by rfl)
    (h1 : starEach [a, b] X.env = (false, eval a X.env) :: starEach [b] X.env := by rfl) (h2 : starEach [b] X.env = (false, eval b X.env) :: starEach [] X.env := by rfl) :
    PY G X W (.Assign [.Tuple [.Name x px, .Name y py] kt pt] (.Tuple [a, b] k2 pt2) pos) (wParN i j wn wb) := by
  obtain ⟨ta, pa, sa⟩ := ha
  obtain ⟨tb, pb, sb⟩ := hb
  refine ⟨_, ps_par hc hN hi hj hij hx hy (pa_cons pa (pa_cons pb pa_nil h2) h1) hw hs, fun c M ρ σ H Z P r w k => ?_⟩
  refine sa M ρ σ H _ _ _ r.rep w (fun d ρ1 l H1 g n h0 rp ow q => ?_) (k.thr r)
  have r1 := r.go g
  refine sb (l :: M) ρ1 σ H1 _ _ _ rp q (fun s ρ2 u H2 g2 rs q2 => ?_) (thr_aside n g.rep ow ((k.thr r).go g))
  obtain ⟨g2', ow2⟩ := go_aside n g.rep ow g2
  obtain ⟨yd, ry, p1, p2, p3, q3⟩ := rs.val' q2
  refine ⟨_, _, rfl, ?_⟩
  have r2 := r1.go g2'
  have hi' : i < σ.length := by rw [← g2.rep.len]; exact p3
  have ro := r2.own_set n g2.rep ow2 (r.old l h0) (by rw [← k.pins]; exact p1) hi' fun f hf => by
    refine (r.fr f hf).trans fun b o h => ?_
    obtain ⟨nb, e, t⟩ := fz_of3 h
    refine fz_in (fun z => ?_) (g2.kp b o (g.kp b o e (fun z => nb (r.rep.seenM z)) t) (fun z => nb (g.rep.seenM z)) t) t
    rcases List.mem_cons.mp z with z | z
    · rw [z] at e; exact h0 o e t
    · exact nb z
  exact k.nx (l :: M) _ _ _ (ro.diff (is := [j]) (rep_set ro.rep ry) (Ex.refl _) diff_set (by intro m hm; rw [List.mem_singleton.mp hm, ← k.pins]; exact p2)) q3
end
end Pu
/-! ### the pure layer: comprehensions that roll the dice -/
namespace Pu
open PySem PySem.Spec PyProof.Rows L2 Lk Evl StX
section
variable {vs : List Nat} {wg : WG} {wt : WT} {we : WE} {ρ1 tl' : Env} {q : D → Env → Prop} {d0 : D}
theorem lc_dice {α : Type} {xs : List α} {g : α → D} (S : α → D → Prop) (hw : wipeE vs ρ1 = .ow d0 :: tl') (hd0 : isDice d0) (hz : xs.length ≤ sizeLine)
    (ht : ∀ (a : α) (d : D) (K1 : D → Env → Prop) (K2 : Env → Prop), a ∈ xs → isDice d → (∀ d' y, isDice d' → S a y → K1 y (.ow d' :: tl')) →
      wg (g a) (.ow d :: tl') fun ρ2 => wt ρ2 (fun b ρ3 => if b = true then we ρ3 (fun s ρ4 => s.val' fun y => K1 y (wipeE vs ρ4)) eq0 else K2 (wipeE vs ρ3)) eq0)
    (hq : ∀ ys d', isDice d' → ys.length = xs.length → (∀ (i : Nat) (a : α) (y : D), xs[i]? = some a → ys[i]? = some y → S a y) → q (.lst ys) (backE vs ρ1 (.ow d' :: tl')))
    (no : noOw vs ρ1 = true := by rfl) : LcOk vs wg wt we q (xs.map g) ρ1 := by
  refine ⟨no, fun i ys ρ' => (∃ d, isDice d ∧ ρ' = .ow d :: tl') ∧ (i ≤ xs.length → ys.length = i) ∧ ∀ (j : Nat) (a : α) (y : D), xs[j]? = some a → ys[j]? = some y → S a y, ⟨⟨d0, hd0, hw⟩, fun _ => rfl, fun j a y _ h => by simp at h⟩, ?_, by rw [List.length_map]; exact hz, ?_⟩
  · rintro i d ys ρ' hd ⟨⟨dd, hdd, rfl⟩, hl, hs⟩ _
    rw [List.getElem?_map] at hd
    cases e : xs[i]? with
    | none => rw [e] at hd; cases hd
    | some a =>
      rw [e] at hd
      cases hd
      have hi := (List.getElem?_eq_some_iff.mp e).1
      have hli := hl (by omega)
      refine ht a dd (fun y ρ4 => (∃ d, isDice d ∧ ρ4 = .ow d :: tl') ∧ (i + 1 ≤ xs.length → (ys ++ [y]).length = i + 1) ∧ ∀ (j : Nat) (a : α) (y' : D), xs[j]? = some a → (ys ++ [y])[j]? = some y' → S a y') (fun ρ4 => (∃ d, isDice d ∧ ρ4 = .ow d :: tl') ∧ (i + 1 ≤ xs.length → ys.length = i + 1) ∧ ∀ (j : Nat) (a : α) (y' : D), xs[j]? = some a → ys[j]? = some y' → S a y') (List.mem_of_getElem? e) hdd fun d' y hd' hy => ⟨⟨d', hd', rfl⟩, fun _ => by rw [List.length_append, hli]; rfl, fun j b y' h1 h2 => ?_⟩
      by_cases hj : j < i
      · rw [List.getElem?_append_left (by omega)] at h2
        exact hs j b y' h1 h2
      · have hj2 : j = i := by
          have := (List.getElem?_eq_some_iff.mp h2).1
          rw [List.length_append, hli] at this
          simp at this
          omega
        subst hj2
        rw [List.getElem?_append_right (by omega), hli, Nat.sub_self] at h2
        cases h2
        rw [e] at h1
        cases h1
        exact hy
  · rintro ys ρ' ⟨⟨d, hd, rfl⟩, hl, hs⟩ _
    rw [List.length_map] at hl
    exact hq ys d hd (hl (Nat.le_refl _)) hs
end
/-- texts, one by one -/
theorem strs_of {ys : List D} {p : Str → Prop} (h : ∀ y ∈ ys, ∃ z, y = .str z ∧ p z) : ∃ zs : List Str, ys = zs.map D.str ∧ ∀ z ∈ zs, p z := by
  induction ys with
  | nil => exact ⟨[], rfl, fun _ h => nomatch h⟩
  | cons y ys ih =>
    obtain ⟨z, rfl, hz⟩ := h y List.mem_cons_self
    obtain ⟨zs, rfl, hzs⟩ := ih fun y hy => h y (List.mem_cons_of_mem _ hy)
    exact ⟨z :: zs, rfl, fun x hx => by
      rcases List.mem_cons.mp hx with rfl | hx
      · exact hz
      · exact hzs x hx⟩
theorem all_of {α : Type} {xs : List α} {ys : List D} {S : D → Prop} (hl : ys.length = xs.length) (h : ∀ (i : Nat) (a : α) (y : D), xs[i]? = some a → ys[i]? = some y → S y) : ∀ y ∈ ys, S y := fun y hy => by
  obtain ⟨i, hi⟩ := List.getElem?_of_mem hy
  have := (List.getElem?_eq_some_iff.mp hi).1
  exact h i (xs[i]'(by omega)) y (List.getElem?_eq_getElem _) hi
end Pu
/-! the end of a law: a Gx from a written part, a dict of numbers, the law's entry -/
namespace Pu
open PySem PySem.Spec PyProof.Rows L2 Lk Evl StX
def clOf (l : List (Str × Addr)) (x : Str) : Addr := (l.lookup x).getD 0
def subOf (l : List ((Str × Str) × Bool)) (x y : Str) : Option Bool := l.lookup (x, y)
theorem lookup_mem {α β : Type} [BEq α] [LawfulBEq α] {k : α} {v : β} : ∀ {l : List (α × β)}, l.lookup k = some v → (k, v) ∈ l
  | [], h => by cases h
  | (k', v') :: r, h => by
    rw [List.lookup_cons] at h
    split at h
    · rename_i e
      cases h
      rw [eq_of_beq e]
      exact List.mem_cons_self
    · exact List.mem_cons_of_mem _ (lookup_mem h)
theorem gx_ex (K : PySem.W.Frag) (cs : List (Str × Addr)) (es : List ((Str × Str) × Bool)) (tabs : List (Addr × Str)) (he : ∀ p ∈ es, PySem.W.exmOne K (.ref (clOf cs p.1.1)) (.ref (clOf cs p.1.2)) = some p.2) :
    ∃ G : Gx, G.K = K ∧ G.tabs = tabs ∧ (∀ x, G.cl x = clOf cs x) ∧ ∀ x y, G.sub x y = subOf es x y :=
  ⟨⟨K, clOf cs, subOf es, tabs, fun _ _ _ h => he _ (lookup_mem h)⟩, rfl, rfl, fun _ => rfl, fun _ _ => rfl⟩
/-- a dict of the top, its keys texts, its values numbers -/
def kvOf (e : DictEntry) : Option (Str × Int × Int) := match e.key, e.val with
  | .str x _, .int i _ => some (x, e.hash, i)
  | _, _ => none
def dicI (K : PySem.W.Frag) (a : Addr) : Option (List (Option (Str × Int × Int))) := match K.lookup a with
  | some ⟨.type c, none, .dict es _, sl⟩ => bif c == "dict" && (sl.isEmpty && !(a == sysModules)) then some (es.toList.map kvOf) else none
  | _ => none
def kvsIn (P : Params) (ks : List (Str × Int)) : List (Option (Str × Int × Int)) := ks.map fun k => some (k.1, PyData.keyHash P k.1, k.2)
theorem kvs_ok {P : Params} : ∀ {l : List DictEntry} {ks : List (Str × Int)}, l.map kvOf = kvsIn P ks →
    PySem.W.KeysLit P l ∧ ∀ z, RelO ((ks.lookup z).map V.int) ((l.find? fun e => Value.isStrOf z e.key).map (·.val))
  | [], [], _ => ⟨trivial, fun z => by unfold RelO; trivial⟩
  | [], _ :: _, h => by cases h
  | _ :: _, [], h => by cases h
  | e :: r, (k, i) :: ks, h => by
    have h1 : kvOf e :: r.map kvOf = some (k, PyData.keyHash P k, i) :: kvsIn P ks := h
    injection h1 with h2 h3
    obtain ⟨b1, b2⟩ := kvs_ok h3
    unfold kvOf at h2
    split at h2
    · rename_i x t j u q q2
      obtain ⟨h4, h5⟩ := Prod.mk.inj (Option.some.inj h2)
      obtain ⟨h6, h7⟩ := Prod.mk.inj h5
      subst h4
      subst h7
      refine ⟨⟨⟨_, t, q, h6⟩, b1⟩, fun z => ?_⟩
      have e1 : Value.isStrOf z e.key = (x == z) := by rw [q]; rfl
      rw [List.find?_cons, List.lookup_cons, e1]
      by_cases hz : x = z
      · subst hz
        rw [beq_self_eq_true]
        show RelO (some (V.int j)) (some e.val)
        rw [q2]
        exact ⟨_, rfl⟩
      · have f1 : (x == z) = false := beq_eq_false_iff_ne.mpr hz
        have f2 : (z == x) = false := beq_eq_false_iff_ne.mpr (Ne.symm hz)
        rw [f1, f2]
        exact b2 z
    · cases h2
theorem kmapd_of {G : Gx} {wd : World} {a : Addr} {f : Str → Option D} (ks : List (Str × Int)) (h : dicI G.K a = some (kvsIn wd.params ks)) (hf : ∀ z, f z = (ks.lookup z).map D.int) : KMapD G wd a f := by
  refine ⟨fun z => (ks.lookup z).map V.int, ?_, fun z H => ?_⟩
  · unfold dicI at h
    split at h
    · rename_i c es n sl e
      cases hc : c == "dict" && (sl.isEmpty && !(a == sysModules)) with
      | false => rw [hc] at h; cases h
      | true =>
        rw [hc] at h
        obtain ⟨h1, h2⟩ := Bool.and_eq_true_iff.mp hc
        obtain ⟨h3, h4⟩ := Bool.and_eq_true_iff.mp h2
        obtain rfl : c = "dict" := eq_of_beq h1
        obtain rfl : sl = #[] := Array.isEmpty_iff.mp h3
        obtain ⟨b1, b2⟩ := kvs_ok (Option.some.inj h)
        refine ⟨es, n, e, b1, by revert h4; cases a == sysModules <;> simp, fun z => ?_⟩
        have b3 := b2 z
        unfold findBy
        rw [← Array.find?_toList]
        exact b3
    · cases h
  · rw [hf]
    show R G H (((ks.lookup z).map V.int).getD .non) (((ks.lookup z).map D.int).getD .non)
    cases ks.lookup z with
    | none => exact .non
    | some i => exact .int i
theorem rall_ints {G : Gx} {H : Hp} : ∀ ns : List Int, RAll G H (ns.map V.int) (ns.map D.int)
  | [] => .nil
  | n :: r => .cons (.int n) (rall_ints r)
theorem entry_ok {G : Gx} {H : Hp} {a : Addr} {ns : List Int} {psp : PSp} {cs : List (Addr × Addr)} (hS : SqL G.K H a (ns.map V.int)) (ht : ∀ p ∈ cs, H p.2 = some (.tbl #[])) (hc : G.tabs.map (·.1) = cs.map (·.2)) (hp : psp [.fz (.sl (ns.map D.int))] (fun d _ => d = .bl true) fun _ _ _ _ => False) :
    spP G 1 false psp [.ref a] H (fun v _ => v = .bl true) fun _ _ _ => False := by
  have htb : ∀ b ∈ G.tabs.map (·.1), H b = some (.tbl #[]) := fun b hb => by
    rw [hc] at hb
    obtain ⟨p, h1, rfl⟩ := List.mem_map.mp hb
    exact ht p h1
  refine ⟨rfl, G.tabs.map (·.1), _, _, _, ?_, ?_, hp, ?_, ?_⟩
  · intro c hc'
    rw [List.mem_singleton.mp hc']
    exact fun z => by cases z
  · have hf : SqL G.K (Fz (G.tabs.map (·.1)) H) a (ns.map V.int) := by
      rcases hS with h | h
      · refine .inl ?_
        have nm : a ∉ G.tabs.map (·.1) := fun hb => by
          have e := htb a hb
          rcases h with h | ⟨o, h⟩
          · rw [h] at e
            cases e
          · rw [h] at e
            cases e
        rcases h with h | ⟨o, h⟩
        · exact .inl (fz_in nm h)
        · exact .inr ⟨o, fz_in nm h⟩
      · exact .inr h
    refine ⟨rfl, ?_, ?_, ?_, ?_, ?_, ?_⟩
    · intro i d h
      cases i with
      | zero =>
        cases h
        exact ⟨.ref a, rfl, .sl hf (rall_ints ns)⟩
      | succ j => cases h
    · intro i d h
      cases i with
      | zero => cases h
      | succ j => cases h
    · intro i j b d d' h
      cases i with
      | zero => cases h
      | succ j => cases h
    · intro b hb
      obtain ⟨p, h1, rfl⟩ := List.mem_map.mp hb
      exact ⟨_, htb _ hb, .inr ⟨p, h1, rfl⟩⟩
    · exact fun p hp => LamX.TabS.nil (htb _ (List.mem_map.mpr ⟨p, hp, rfl⟩))
    · exact fun p hp => List.mem_map.mpr ⟨p, hp, rfl⟩
  · intro d cs v H' g ro e
    subst e
    cases (show R G _ v (.bl true) from ro)
    rfl
  · intro C ns' xs cs dx H' g x e
    exact e
end Pu
/-! ### the pure layer: instances -/
namespace Pu
open PySem PySem.Spec PyProof.Rows L2 Lk Evl StX
section
variable {G : Gx} {X : Cx} {W : WX} {M : List Addr} {σ : L2.St} {ρ ρ1 : Env} {H H1 : Hp} {v : V} {d : D}
theorem Arg.obj {C : Str} {ns : List Str} {vs : List D} (h : Arg G M H v (.obj C ns vs)) : ∃ a dx fs, v = .ref a ∧ H a = some (.ins (G.cl C) dx fs) ∧ fs.map (·.1) = ns ∧ RAll G (Fz M H) (fs.map (·.2)) vs := by
  cases h with
  | fz h =>
    cases h with
    | obj h1 h2 h3 => exact ⟨_, _, _, rfl, fz_ex _ _ _ _ h1, h2, h3⟩
  | ow a e m h =>
    obtain ⟨dx, fs, h1, h2, h3⟩ := h
    exact ⟨a, dx, fs, e, h1, h2, h3⟩
theorem lookup_at {f : Str} : ∀ {fs : List (Str × V)} {N : List Str} {i : Nat} {v : V}, fs.map (·.1) = N → N[i]? = some f → (N.take i).contains f = false → (fs.map (·.2))[i]? = some v → fs.lookup f = some v
  | [], _, i, _, _, _, _, h => by simp at h
  | (g, y) :: r, _, 0, v, e, h1, h2, h3 => by
    subst e
    simp at h1 h3
    rw [List.lookup_cons, h1, beq_self_eq_true, h3]
  | (g, y) :: r, _, i + 1, v, e, h1, h2, h3 => by
    subst e
    have ne : (f == g) = false := by
      simp only [List.map_cons, List.take_succ_cons, List.contains_cons, Bool.or_eq_false_iff] at h2
      exact h2.1
    rw [List.lookup_cons, ne]
    refine lookup_at (i := i) rfl (by simpa using h1) ?_ (by simpa using h3)
    simp only [List.map_cons, List.take_succ_cons, List.contains_cons, Bool.or_eq_false_iff] at h2
    exact h2.2
/-- e.f, e an instance of C whose attributes are N, f its i-th -/
def wFld (C : Str) (N : List Str) (i : Nat) (we : WE) : WE := fun ρ q e => we ρ (fun s ρ1 => s.gets ρ1 fun d => match d with
  | .obj C' ns vs => C' = C ∧ ns = N ∧ match vs[i]? with
    | some x => q (.val x) ρ1
    | none => False
  | _ => False) e
theorem px_fld {C f : Str} {N : List Str} {i : Nat} {e : Expr} {we : WE} {pos : Pos} (c : Cls G.K (G.cl C)) (n : NoAttr G.K (G.cl C) f) (hi : N[i]? = some f) (hn : (N.take i).contains f = false) (he : PX G X W e we)
    (hb : attributeBase e f X.env (eval e X.env) = eval e X.env := by rfl) (hK : X.K = G.K := by rfl) : PX G X W (.Attribute e f pos) (wFld C N i we) := by
  obtain ⟨te, pe, se⟩ := he
  refine ⟨_, pe_fld pe hb, fun M ρ σ H q eq Q rp w k th => ?_⟩
  refine se M ρ σ H _ eq _ rp w (fun s ρ1 v H1 g rs w1 => ?_) th
  obtain ⟨d, a1, w2⟩ := rs.arg g.rep w1
  split at w2
  · obtain ⟨rfl, rfl, w3⟩ := w2
    split at w3
    · rename_i x hx
      obtain ⟨a, dx, fs, rfl, ha, hf, hr⟩ := a1.obj
      obtain ⟨u, hu, ru⟩ := hr.get hx
      exact ⟨a, _, dx, fs, u, rfl, ha, by rw [hK]; exact c, by rw [hK]; exact n, lookup_at hf hi hn hu, k (.val x) ρ1 u H1 g ru w3⟩
    · exact w3.elim
  · exact w2.elim
theorem putF_new {f : Str} {v : V} : ∀ {fs : List (Str × V)}, (fs.map (·.1)).contains f = false → putF f v fs = fs ++ [(f, v)]
  | [], _ => rfl
  | (g, y) :: r, h => by
    simp only [List.map_cons, List.contains_cons, Bool.or_eq_false_iff] at h
    have ne : g ≠ f := fun z => by rw [z, beq_self_eq_true] at h; cases h.1
    show (if g = f then (g, v) :: r else (g, y) :: putF f v r) = _
    rw [if_neg ne, putF_new h.2]
    rfl
/-- self.f = e, self owned, in the j-th slot -/
def wOfld (C f : Str) (j : Nat) (we : WE) : WS := fun P ρ => we ρ (fun s ρ1 => s.val' fun y => match ρ1[j]? with
  | some (.ow (.obj C' ns vs)) => C' = C ∧ ns.length < 1000 ∧ ns.contains f = false ∧ P.nx (List.set ρ1 j (Cell.ow (.obj C (ns ++ [f]) (vs ++ [y]))))
  | _ => False) P.ex
theorem py_ofld {C f x : Str} (j : Nat) {e : Expr} {we : WE} {pos p1 p2 : Pos} (c : Cls G.K (G.cl C)) (n : NoAttr G.K (G.cl C) f) (hv : PE X (.Name x p1) (tVar j)) (he : PX G X W e we)
    (hs : swapsWith e (some (.Attribute (.Name x p1) f p2)) pos.line X.env = pure false := by rfl) (hK : X.K = G.K := by rfl) : PY G X W (.Assign [.Attribute (.Name x p1) f p2] e pos) (wOfld C f j we) := by
  obtain ⟨te, pe, se⟩ := he
  refine ⟨_, ps_fld hv pe hs, fun c' M ρ σ H Z P r w k => ?_⟩
  refine se M ρ σ H _ _ _ r.rep w (fun s ρ1 v H1 g rs w1 => ?_) (k.thr r)
  obtain ⟨y, ry, w2⟩ := rs.val' w1
  split at w2
  · rename_i C' ns vs hd
    obtain ⟨rfl, hl, hn, w3⟩ := w2
    obtain ⟨a, ha, m, dx, fs, h1, h2, h3⟩ := g.rep.ow j _ hd
    subst h2
    refine ⟨.ref a, ha, a, _, dx, fs, rfl, h1, by rw [hK]; exact c, by rw [hK]; exact n, by simpa using hl, ?_⟩
    rw [putF_new hn]
    have gu := go_upd g.rep hd ha m (d' := .obj C' (fs.map (·.1) ++ [f]) (vs ++ [y])) (o := .ins (G.cl C') dx (fs ++ [(f, v)])) ⟨dx, _, upd_same, by simp, by rw [fz_upd m]; simpa using h3.app (.cons ry .nil)⟩
    exact k.nx M _ σ _ ((r.go g).go gu) w3
  · exact w2.elim
end
/-! ### an instance made -/
section
variable {G : Gx} {X : Cx} {W : WX} {M M2 : List Addr} {σ : L2.St} {ρ ρ1 : Env} {H H1 : Hp} {v : V} {d : D} {x : Addr}
theorem own_anti {a : Addr} (sub : ∀ b ∈ M, b ∈ M2) (h : Own G M2 H a d) : Own G M H a d := by
  have e : Ex (Fz M2 H) (Fz M H) := fz_anti sub
  cases d <;> first | exact h.elim | skip
  · exact let ⟨xs, h1, h2⟩ := h; ⟨xs, h1, h2.ex e⟩
  · exact let ⟨kvs, h1, h2, h3⟩ := h; ⟨kvs, h1, h2.ex e, h3.ex e⟩
  · exact let ⟨dx, fs, h1, h2, h3⟩ := h; ⟨dx, fs, h1, h2, h3.ex e⟩
theorem fz_push (hx : H x = none) (e : Ex H H1) : Ex (Fz M H) (Fz (x :: M) H1) := fun b o h => by
  obtain ⟨n, k, t⟩ := fz_of3 h
  refine fz_in (fun z => ?_) (e b o k) t
  rcases List.mem_cons.mp z with rfl | z
  · rw [hx] at k; cases k
  · exact n z
theorem get_last {α : Type} {l : List α} {y : α} {n : Nat} (h : n = l.length) : (l ++ [y])[n]? = some y := by subst h; simp
theorem get_push {α : Type} {l : List α} {y z : α} {i : Nat} (h : (l ++ [y])[i]? = some z) : l[i]? = some z ∨ (i = l.length ∧ z = y) := by
  by_cases hi : i < l.length
  · rw [List.getElem?_append_left hi] at h; exact .inl h
  · rw [List.getElem?_append_right (by omega)] at h
    have : i - l.length = 0 := by
      have := (List.getElem?_eq_some_iff.mp h).1
      simp at this; omega
    rw [this] at h
    cases h
    exact .inr ⟨by omega, rfl⟩
theorem get_keep {α : Type} {l : List α} {y z : α} {i : Nat} (h : l[i]? = some z) : (l ++ [y])[i]? = some z := by
  rw [List.getElem?_append_left (List.getElem?_eq_some_iff.mp h).1]; exact h
theorem rep_push (r : Rep G M ρ σ H) (hx : H x = none) (e : Ex H H1) (ow : Own G (x :: M) H1 x d) : Rep G (x :: M) (ρ ++ [.ow d]) (σ ++ [some (.ref x)]) H1 := by
  have ef := fz_push (M := M) hx e
  have hl := r.len
  have old : ∀ {i : Nat} {a : Addr} {d' : D}, ρ[i]? = some (.ow d') → σ[i]? = some (some (.ref a)) → a ≠ x := fun {i a d'} h1 h2 z => by
    obtain ⟨b, q1, q2, q3⟩ := r.ow i d' h1
    rw [h2] at q1
    cases q1
    obtain ⟨o, q4, _⟩ := q3.pl
    rw [z, hx] at q4
    cases q4
  have low : ∀ {i : Nat} {a : Addr} {d' : D}, ρ[i]? = some (.ow d') → (σ ++ [some (V.ref x)])[i]? = some (some (.ref a)) → σ[i]? = some (some (.ref a)) := fun {i a d'} h1 h2 => by
    rcases get_push h2 with h2 | ⟨h2, _⟩
    · exact h2
    · have := (List.getElem?_eq_some_iff.mp h1).1; omega
  refine ⟨by simp [hl], fun i d' h => ?_, fun i d' h => ?_, fun i j a d1 d2 h1 h2 h3 h4 => ?_, fun b hb => ?_, r.tab.ext e, fun p hp => List.mem_cons_of_mem _ (r.tm p hp)⟩
  · rcases get_push h with h | ⟨_, h⟩
    · obtain ⟨v, h1, h2⟩ := r.fz i d' h; exact ⟨v, get_keep h1, h2.ex ef⟩
    · cases h
  · rcases get_push h with h | ⟨h, h'⟩
    · obtain ⟨a, h1, h2, h3⟩ := r.ow i d' h
      refine ⟨a, get_keep h1, List.mem_cons_of_mem _ h2, ?_⟩
      have h4 := h3.ex e
      cases d' <;> first | exact h3.elim | skip
      · obtain ⟨xs, q1, q2⟩ := h3; exact ⟨xs, e _ _ q1, q2.ex ef⟩
      · obtain ⟨kvs, q1, q2, q3⟩ := h3; exact ⟨kvs, e _ _ q1, q2.ex ef, q3.ex ef⟩
      · obtain ⟨dx, fs, q1, q2, q3⟩ := h3; exact ⟨dx, fs, e _ _ q1, q2, q3.ex ef⟩
    · cases h'
      exact ⟨x, get_last (by omega), List.mem_cons_self, ow⟩
  · rcases get_push h1 with h1 | ⟨e1, _⟩
    · rcases get_push h2 with h2 | ⟨e2, _⟩
      · exact r.inj i j a d1 d2 h1 h2 (low h1 h3) (low h2 h4)
      · rw [e2, get_last (by omega)] at h4
        cases h4
        exact (old h1 (low h1 h3) rfl).elim
    · rcases get_push h2 with h2 | ⟨e2, _⟩
      · rw [e1, get_last (by omega)] at h3
        cases h3
        exact (old h2 (low h2 h4) rfl).elim
      · omega
  · rcases List.mem_cons.mp hb with rfl | hb
    · obtain ⟨o, h1, h2, _⟩ := ow.pl; exact ⟨o, h1, .inl h2⟩
    · obtain ⟨o, h1, h2⟩ := r.trk b hb; exact ⟨o, e _ _ h1, h2⟩
theorem rep_pop (r : Rep G (x :: M) (ρ ++ [.ow d]) (σ ++ [some (.ref x)]) H) (hl : ρ.length = σ.length) (tm : ∀ p ∈ G.tabs, p.1 ∈ M) (hx : x ∉ M) : Rep G M ρ σ H ∧ R G (Fz M H) (.ref x) d := by
  have sub : ∀ b ∈ M, b ∈ x :: M := fun b hb => List.mem_cons_of_mem _ hb
  have ef : Ex (Fz (x :: M) H) (Fz M H) := fz_anti sub
  have dn : ∀ {i : Nat} {c : Cell} {v : Option V}, ρ[i]? = some c → (σ ++ [some (V.ref x)])[i]? = some v → σ[i]? = some v := fun {i c v} h1 h2 => by
    rcases get_push h2 with h2 | ⟨h2, _⟩
    · exact h2
    · have := (List.getElem?_eq_some_iff.mp h1).1; omega
  have lst : Own G (x :: M) H x d := by
    obtain ⟨a, h1, h2, h3⟩ := r.ow ρ.length d (get_last rfl)
    rw [get_last hl] at h1
    cases h1
    exact h3
  refine ⟨⟨hl, fun i d' h => ?_, fun i d' h => ?_, fun i j a d1 d2 h1 h2 h3 h4 => r.inj i j a d1 d2 (get_keep h1) (get_keep h2) (get_keep h3) (get_keep h4), fun b hb => r.trk b (sub b hb), r.tab, tm⟩, ?_⟩
  · obtain ⟨v, h1, h2⟩ := r.fz i d' (get_keep h); exact ⟨v, dn h h1, h2.ex ef⟩
  · obtain ⟨a, h1, h2, h3⟩ := r.ow i d' (get_keep h)
    have h1' := dn h h1
    refine ⟨a, h1', ?_, own_anti sub h3⟩
    rcases List.mem_cons.mp h2 with rfl | h2
    · have := r.inj i ρ.length a d' d (get_keep h) (get_last rfl) h1 (get_last hl)
      have := (List.getElem?_eq_some_iff.mp h).1
      omega
    · exact h2
  · exact own_r hx lst
end
section
variable {G : Gx} {X : Cx} {W : WX} {M : List Addr} {σ : L2.St} {ρ ρ1 : Env} {H H1 : Hp}
theorem wbk_vals (ρ : Env) : ∀ (ds : List D) (cs : List Cell), wbk ρ (ds.map Src.val) cs = ρ
  | [], cs => by cases cs <;> rfl
  | d :: ds, [] => rfl
  | d :: ds, c :: cs => wbk_vals ρ ds cs
theorem slots_vals : ∀ ds : List D, slots (ds.map Src.val) = []
  | [] => rfl
  | _ :: ds => slots_vals ds
/-- what __init__ leaves behind -/
def objOut (q : Src → Env → Prop) (C : Str) (ρ1 : Env) (d : D) (cs : List Cell) : Prop := d = .non ∧ match cs with
  | .ow (.obj C' ns vs) :: _ => C' = C ∧ q (.val (.obj C ns vs)) ρ1
  | _ => False
theorem make_core {psp : PSp} {C : Str} {n : Nat} {x dx : Addr} {q : Src → Env → Prop} {eq : EQ} {Q : VK} {He : Hp} {vs : List V} {ds : List D} (rp : Rep G M ρ σ H) (g1 : Go G M σ ρ H ρ1 H1) (hx : H1 x = none) (hd : H1 dx = none) (ne : dx ≠ x)
    (ex : Ex (upd (upd H1 dx (.own x)) x (.ins (G.cl C) dx [])) He) (hv : RAll G (Fz (x :: M) He) vs ds) (th : Thr G M W σ ρ H eq) (k : ∀ s ρ' v H', Go G M σ ρ H ρ' H' → RS G M ρ' σ H' v s → q s ρ' → Q v H')
    (w : psp (.ow (.obj C [] []) :: ds.map .fz) (objOut q C ρ1) fun C' ns vs _ => eq C' ns vs ρ1) (hn : ds.length + 1 = n) : spP G n false psp (.ref x :: vs) He (fun v H2 => v = .non ∧ Q (.ref x) H2) (fun c d H => W c d σ H) := by
  have e1 : Ex H1 He := fun b o h => ex b o (by rw [upd_ne (fun z => by rw [z, hx] at h; cases h), upd_ne (fun z => by rw [z, hd] at h; cases h)]; exact h)
  have repE := rep_push g1.rep hx e1 (d := .obj C [] []) ⟨dx, [], ex _ _ upd_same, rfl, .nil⟩
  have hl := g1.rep.len
  have xM : x ∉ M := g1.rep.new hx
  have rv : ∀ {vs : List V} {ds : List D}, RAll G (Fz (x :: M) He) vs ds → RSs G (x :: M) (ρ1 ++ [Cell.ow (.obj C [] [])]) (σ ++ [some (.ref x)]) He vs (ds.map Src.val) := by
    intro vs ds h
    induction ds generalizing vs with
    | nil => cases h; exact .nil
    | cons d ds ih => cases h with | cons a t => exact .cons a (ih t)
  have rss : RSs G (x :: M) (ρ1 ++ [Cell.ow (.obj C [] [])]) (σ ++ [some (.ref x)]) He (.ref x :: vs) (.slot ρ1.length :: ds.map Src.val) := .cons ⟨get_last hl, _, get_last rfl⟩ (rv hv)
  have nd : (slots (Src.slot ρ1.length :: ds.map Src.val)).Nodup := by
    show (ρ1.length :: slots (ds.map Src.val)).Nodup
    rw [slots_vals]
    simp
  obtain ⟨ra, nu⟩ := rep_args repE rss nd
  have ec : (Src.slot ρ1.length :: ds.map Src.val).map (cellOf (ρ1 ++ [Cell.ow (.obj C [] [])])) = .ow (.obj C [] []) :: ds.map .fz := by
    have e0 : cellOf (ρ1 ++ [Cell.ow (.obj C [] [])]) (.slot ρ1.length) = .ow (.obj C [] []) := by
      unfold cellOf
      simp
    rw [List.map_cons, e0, List.map_map]
    rfl
  have back : ∀ {cs : List Cell} {H' : Hp}, Go G (x :: M) ((V.ref x :: vs).map some) ((Src.slot ρ1.length :: ds.map Src.val).map (cellOf (ρ1 ++ [Cell.ow (.obj C [] [])]))) He cs H' → ∃ d cs', cs = .ow d :: cs' ∧ Go G M σ ρ H ρ1 H' ∧ R G (Fz M H') (.ref x) d := by
    intro cs H' g
    obtain ⟨a, b, c⟩ := go_call repE rss nd g g.rep (fun _ h => h) (g.fz ra)
    obtain ⟨d, hc⟩ := (g.kin.ow 0).mpr ⟨_, by rw [ec]; rfl⟩
    cases cs with
    | nil => simp at hc
    | cons c0 cs' =>
      simp at hc
      subst hc
      have ew : wbk (ρ1 ++ [Cell.ow (.obj C [] [])]) (Src.slot ρ1.length :: ds.map Src.val) (Cell.ow d :: cs') = ρ1 ++ [Cell.ow d] := by
        show wbk (List.set (ρ1 ++ [Cell.ow (.obj C [] [])]) ρ1.length (Cell.ow d)) (ds.map Src.val) cs' = _
        rw [wbk_vals]
        simp
      rw [ew] at a
      obtain ⟨p1, p2⟩ := rep_pop a hl g1.rep.tm xM
      refine ⟨d, cs', rfl, g1.trans ⟨p1, .refl _, fun b o h ns nt => c b o (e1 b o h) (fun z => ?_) nt⟩, p2⟩
      obtain ⟨i, d', q1, q2⟩ := z
      rcases get_push q1 with q1 | ⟨q1, _⟩
      · rcases get_push q2 with q2 | ⟨q2, _⟩
        · exact ns ⟨i, d', q1, q2⟩
        · have := (List.getElem?_eq_some_iff.mp q1).1; omega
      · rw [q1, get_last hl] at q2
        cases q2
        rw [hx] at h
        cases h
  refine ⟨by simp [hv.len, ← hn], x :: M, _, _, _, nu, ra, by rw [ec]; exact w, fun d cs v H' g rd qq => ?_, fun C' ns xs cs dx' H' g hx' z => ?_⟩
  · obtain ⟨d', cs', rfl, g2, r2⟩ := back g
    obtain ⟨rfl, q2⟩ := qq
    refine ⟨by cases (show R G _ v .non from rd); rfl, ?_⟩
    cases d' <;> first | exact q2.elim | skip
    obtain ⟨rfl, q3⟩ := q2
    exact k (.val _) ρ1 (.ref x) H' g2 r2 q3
  · obtain ⟨d', cs', rfl, g2, r2⟩ := back g
    refine th C' ns xs ρ1 dx' H' g2 ?_ z
    cases dx' with
    | none => exact hx'
    | some a =>
      obtain ⟨fs, h1, h2, h3⟩ := hx'
      have ef : Ex (Fz (x :: M) H') (Fz M H') := fz_anti fun b hb => List.mem_cons_of_mem _ hb
      exact ⟨fs, ef _ _ h1, h2, h3.ex ef⟩
/-- an __init__'s promise -/
structure PMk (G : Gx) (P : Program) (wd : World) (mg : Str → Option Value) (base : Heap) (CXc : CXT) (k : Nat) (C : Str) (star : Bool) (n : Nat) (psp : PSp) : Prop where
  ex : ∃ f, Mk G.K (G.cl C) f ∧ FnR P wd G.K mg base CXc k f (match star with
    | false => spP G n false psp
    | true => fun vs H Q E => ∃ ws rest, vs = ws ++ rest ∧ ws.length = 1 ∧ rest.length ≤ sizeLine ∧ ∀ p, H p = none → spP G 2 false psp (ws ++ [V.ref p]) (upd H p (.tup rest)) Q E)
  len : ∀ cells q eq, psp cells q eq → cells.length = n
  two : star = true → n = 2
/-- C(e, ..) -/
def wMake (C : Str) (psp : PSp) (wa : WA) : WE := fun ρ q e => wa ρ (fun ss ρ1 => ValsD ss fun ds => psp (.ow (.obj C [] []) :: ds.map .fz) (objOut q C ρ1) fun C' ns vs _ => e C' ns vs ρ1) e
/-- C(e, ..) where __init__ takes self, *args -/
def wMakeS (C : Str) (psp : PSp) (wa : WA) : WE := fun ρ q e => wa ρ (fun ss ρ1 => ValsD ss fun ds => ds.length ≤ sizeLine ∧ psp [.ow (.obj C [] []), .fz (.tup ds)] (objOut q C ρ1) fun C' ns vs _ => e C' ns vs ρ1) e
theorem make_step {psp : PSp} {C : Str} {n : Nat} {q : Src → Env → Prop} {eq : EQ} {Q : VK} {vs : List V} {ds : List D} (rp : Rep G M ρ σ H) (g1 : Go G M σ ρ H ρ1 H1) (hv : RAll G (Fz M H1) vs ds) (th : Thr G M W σ ρ H eq) (k : ∀ s ρ' v H', Go G M σ ρ H ρ' H' → RS G M ρ' σ H' v s → q s ρ' → Q v H')
    (w : psp (.ow (.obj C [] []) :: ds.map .fz) (objOut q C ρ1) fun C' ns vs _ => eq C' ns vs ρ1) (hn : ds.length + 1 = n) (x dx : Addr) (hx : H1 x = none) (hd : H1 dx = none) (ne : dx ≠ x) :
    spP G n false psp (.ref x :: vs) (upd (upd H1 dx (.own x)) x (.ins (G.cl C) dx [])) (fun v H2 => v = .non ∧ Q (.ref x) H2) (fun c d H => W c d σ H) := by
  have e1 : Ex H1 (upd (upd H1 dx (.own x)) x (.ins (G.cl C) dx [])) := fun b o h => by rw [upd_ne (fun z => by rw [z, hx] at h; cases h), upd_ne (fun z => by rw [z, hd] at h; cases h)]; exact h
  exact make_core rp g1 hx hd ne (fun _ _ h => h) (hv.ex (fz_push hx e1)) th k w hn
theorem make_stepS {psp : PSp} {C : Str} {q : Src → Env → Prop} {eq : EQ} {Q : VK} {vs : List V} {ds : List D} (rp : Rep G M ρ σ H) (g1 : Go G M σ ρ H ρ1 H1) (hv : RAll G (Fz M H1) vs ds) (th : Thr G M W σ ρ H eq) (k : ∀ s ρ' v H', Go G M σ ρ H ρ' H' → RS G M ρ' σ H' v s → q s ρ' → Q v H')
    (hz : ds.length ≤ sizeLine) (w : psp [.ow (.obj C [] []), .fz (.tup ds)] (objOut q C ρ1) fun C' ns vs _ => eq C' ns vs ρ1) (x dx : Addr) (hx : H1 x = none) (hd : H1 dx = none) (ne : dx ≠ x) :
    ∃ ws rest, V.ref x :: vs = ws ++ rest ∧ ws.length = 1 ∧ rest.length ≤ sizeLine ∧ ∀ p, upd (upd H1 dx (.own x)) x (.ins (G.cl C) dx []) p = none →
      spP G 2 false psp (ws ++ [V.ref p]) (upd (upd (upd H1 dx (.own x)) x (.ins (G.cl C) dx [])) p (.tup rest)) (fun v H2 => v = .non ∧ Q (.ref x) H2) (fun c d H => W c d σ H) := by
  refine ⟨[.ref x], vs, rfl, rfl, by rw [hv.len]; exact hz, fun p hp => ?_⟩
  have e1 : Ex H1 (upd (upd H1 dx (.own x)) x (.ins (G.cl C) dx [])) := fun b o h => by rw [upd_ne (fun z => by rw [z, hx] at h; cases h), upd_ne (fun z => by rw [z, hd] at h; cases h)]; exact h
  have e2 : Ex (upd (upd H1 dx (.own x)) x (.ins (G.cl C) dx [])) (upd (upd (upd H1 dx (.own x)) x (.ins (G.cl C) dx [])) p (.tup vs)) := Ex.new hp
  have np : p ∉ x :: M := fun z => by
    rcases List.mem_cons.mp z with rfl | z
    · rw [upd_same] at hp; cases hp
    · obtain ⟨o, h1, _⟩ := g1.rep.trk p z
      rw [e1 _ _ h1] at hp; cases hp
  exact make_core (ds := [.tup ds]) rp g1 hx hd ne e2 (.cons (.tup (.inl (.of (fz_in np upd_same))) (hv.ex (fz_push hx (fun b o h => e2 b o (e1 b o h))))) .nil) th k w rfl
end
end Pu
/-! ### the pure layer: own classes used -/
namespace Pu
open PySem PySem.Spec PyProof.Rows L2 Lk Evl StX
def btNames : List String := ["str", "int", "bool", "tuple", "list", "dict"]
def tyNames : List String := ["NoneType", "bool", "int", "str", "tuple", "list", "dict"]
/-- what the text says of an own class -/
structure ClsI (K : PySem.W.Frag) (C : Addr) : Prop where
  cl : Cls K C
  ha : PySem.W.findIn K (.ref C) "__class__" = some (some (.builtin "object.__class__"))
  hn : PySem.W.specialIn K (.builtin "object.__class__") "__get__" = some (some (.builtin "getset_descriptor.__get__"))
  ht : PySem.W.takesIn K (.builtin "object.__class__") = some true
  hm : PySem.W.mroIn K C (.type "object") = some true
  bt : ∀ n ∈ btNames, PySem.W.kitOne K (.ref C) (.type n) = some false
  tb : ∀ n ∈ tyNames, PySem.W.kitOne K (.type n) (.ref C) = some false
  nf : ∀ n ∈ tyNames, PySem.W.notFirst K C (.type n) = true
def clsB (K : PySem.W.Frag) (C : Addr) : Bool :=
  PySem.W.plainGet K C Str.empty && (PySem.W.hasDictIn K C && (PySem.W.plainOver K C && (decide (PySem.W.findIn K (.ref C) "__setattr__" = some (some (.builtin "object.__setattr__"))) &&
  (decide (PySem.W.findIn K (.ref C) "__class__" = some (some (.builtin "object.__class__"))) && (decide (PySem.W.specialIn K (.builtin "object.__class__") "__get__" = some (some (.builtin "getset_descriptor.__get__"))) &&
  (decide (PySem.W.takesIn K (.builtin "object.__class__") = some true) && (decide (PySem.W.mroIn K C (.type "object") = some true) && (btNames.all (fun n => decide (PySem.W.kitOne K (.ref C) (.type n) = some false)) &&
  (tyNames.all (fun n => decide (PySem.W.kitOne K (.type n) (.ref C) = some false)) && tyNames.all (fun n => PySem.W.notFirst K C (.type n)))))))))))
theorem clsB_ok {K : PySem.W.Frag} {C : Addr} (h : clsB K C = true) : ClsI K C := by
  unfold clsB at h
  simp only [Bool.and_eq_true, decide_eq_true_eq, List.all_eq_true] at h
  obtain ⟨h1, h2, h3, h4, h5, h6, h7, h8, h9, h10, h11⟩ := h
  exact ⟨⟨h1, h2, h3, h4⟩, h5, h6, h7, h8, h9, h10, h11⟩
theorem tyn_names {d : D} {n : String} (h : d.tyn = some n) : n ∈ tyNames := by
  cases d <;> first | (cases h; done) | (cases h; decide)
theorem bt_names (b : BT) : b.name ∈ btNames := by cases b <;> decide
section
variable {G : Gx} {X : Cx} {W : WX} {M : List Addr} {σ : L2.St} {ρ ρ1 : Env} {H H1 : Hp} {v : V} {d : D} {C : Str}
theorem ClsI.ty {a dx : Addr} {fs : List (Str × V)} {Ca : Addr} (c : ClsI G.K Ca) (h : H a = some (.ins Ca dx fs)) : TyX G.K H (.ref a) (.ref Ca) := .base (.ins h c.cl c.ha c.hn c.ht c.hm)
/-! ### isinstance where an instance may stand -/
def dIsiB (C : Str) (b : BT) (x y : D) (k : D → Prop) : Prop := y = .ty b.name ∧ match x with
  | .obj C' _ _ => C' = C ∧ k (.bl false)
  | x => optK (b.has x) fun r => k (.bl r)
theorem isiB_s (c : ClsI G.K (G.cl C)) (b : BT) : CallS G (d2 (dIsiB C b)) (rIsi G.K) := d2_s fun M H x y d e k t a1 a2 h Q q => by
  obtain ⟨rfl, h⟩ := h
  split at h
  · obtain ⟨rfl, h⟩ := h
    obtain ⟨a, dx, fs, rfl, h1, _, _⟩ := a1.obj
    have ey : y = .ty b.name := by have := a2.full; cases this; rfl
    subst ey
    exact ⟨_, _, _, _, false, rfl, .ty _, c.ty h1, c.bt _ (bt_names b), q (.bl _) _ H (Ex.refl _) (R.bl _) h⟩
  · exact isi_s b M H [x, y] [_, _] k t (.cons a1 (.cons a2 .nil)) ⟨rfl, h⟩ Q q
def dIsiC (C : Str) (x y : D) (k : D → Prop) : Prop := y = .cls C ∧ match x with
  | .obj C' _ _ => C' = C ∧ k (.bl true)
  | x => optK x.tyn fun _ => k (.bl false)
theorem isiC_s (c : ClsI G.K (G.cl C)) : CallS G (d2 (dIsiC C)) (rIsi G.K) := d2_s fun M H x y d e k t a1 a2 h Q q => by
  obtain ⟨rfl, h⟩ := h
  have ey : y = .ref (G.cl C) := by have := a2.full; cases this; rfl
  subst ey
  split at h
  · obtain ⟨rfl, h⟩ := h
    obtain ⟨a, dx, fs, rfl, h1, _, _⟩ := a1.obj
    exact ⟨_, _, _, _, true, rfl, .own _, c.ty h1, by unfold PySem.W.kitOne; rw [if_pos (beq_self_eq_true _)], q (.bl _) _ H (Ex.refl _) (R.bl _) h⟩
  · obtain ⟨n, e1, h⟩ := optK_of h
    exact ⟨_, _, _, _, false, rfl, .own _, tyn_of a1 e1, c.tb _ (tyn_names e1), q (.bl _) _ H (Ex.refl _) (R.bl _) h⟩
/-! ### defs run by their promise -/
theorem call_step {psp : PSp} {n : Nat} {vs : List V} {ss : List Src} {Q : VK} {E : XK} {Qp : D → List Cell → Prop} {Ep : Str → List Str → List D → List Cell → Prop} (g1 : Go G M σ ρ H ρ1 H1) (r1 : RSs G M ρ1 σ H1 vs ss) (nd : (slots ss).Nodup) (w : psp (ss.map (cellOf ρ1)) Qp Ep)
    (k : ∀ d cs v H', Go G M σ ρ H (wbk ρ1 ss cs) H' → R G (Fz M H') v d → Qp d cs → Q v H') (e : ∀ C ns xs cs dx H', Go G M σ ρ H (wbk ρ1 ss cs) H' → XdAt G M H' dx ns xs → Ep C ns xs cs → E (.ref (G.cl C)) dx H') (hn : vs.length = n) : spP G n false psp vs H1 Q E := by
  obtain ⟨ra, nu⟩ := rep_args g1.rep r1 nd
  refine ⟨hn, M, _, _, _, nu, ra, w, fun d cs v H' g rd qq => ?_, fun C ns xs cs dx H' g hx z => ?_⟩
  · obtain ⟨a, b, c⟩ := go_call g1.rep r1 nd g g.rep (fun _ h => h) (g.fz ra)
    exact k d cs v H' (g1.trans ⟨a, b, c⟩) rd qq
  · obtain ⟨a, b, c⟩ := go_call g1.rep r1 nd g g.rep (fun _ h => h) (g.fz ra)
    exact e C ns xs cs dx H' (g1.trans ⟨a, b, c⟩) hx z
/-- a method's promise -/
structure PMt (G : Gx) (P : Program) (wd : World) (mg : Str → Option Value) (base : Heap) (CXc : CXT) (k : Nat) (C m : Str) (n : Nat) (psp : PSp) : Prop where
  ex : ∃ (f : Addr) (fd : FuncData) (ps : List Str), FnOk P wd G.K mg base CXc k f fd ps (spP G n false psp) ∧ PySem.W.findIn G.K (.ref (G.cl C)) m = some (some (.ref f)) ∧ PySem.W.isFn G.K (.ref f) = true ∧ PySem.W.keepIn G.K (.ref f) = true ∧ Binds G.K fd ps []
  len : ∀ cells q eq, psp cells q eq → cells.length = n
theorem fn_raw {P : Program} {w : World} {K : PySem.W.Frag} {mg : Str → Option Value} {base : Heap} {CXc : CXT} {k : Nat} {f : Addr} {fd : FuncData} {ps : List Str} {sp : Sp} (F : FnOk P w K mg base CXc k f fd ps sp) (hb : Binds K fd ps []) : FnR P w K mg base CXc k f sp :=
  (F.raw hb .nil).imp fun vs H Q E h => by rw [List.append_nil]; exact h
/-! ### == and != where an instance of C may stand on the left -/
def wCmpO (C : Str) (psp : PSp) (neg : Bool) (op : Op2) (wa wb : WE) : WE := fun ρ q e => wa ρ (fun s1 ρ1 => wb ρ1 (fun s2 ρ2 => match s1 with
  | .val (.obj C' ns vs) => C' = C ∧ s2.val' fun d2 => (match d2 with
    | .obj C2 _ _ => C2 = C
    | d2 => d2.tyn.isSome = true) ∧ psp [.fz (.obj C ns vs), .fz d2] (fun d _ => ∃ b, d = .bl b ∧ q (.val (.bl (if neg then !b else b))) ρ2) fun _ _ _ _ => False
  | s1 => s1.gets ρ2 fun d1 => s2.gets ρ2 fun d2 => op d1 d2 fun d => q (.val d) ρ2) e) e
theorem se_cmpO {ta tb : TE} {wa wb : WE} {r : R2} {op : Op2} {neg : Bool} {psp : PSp} (c : ClsI G.K (G.cl C)) (ha : SE G W ta wa) (hb : SE G W tb wb) (ho : OpS G op r) :
    SE G W (tOp (fun x y H Q => rOwn G.K (G.cl C) (spP G 2 false psp) neg x y H Q ∨ r x y H Q) ta tb) (wCmpO C psp neg op wa wb) := by
  intro M ρ σ H q eq Q rp w k th
  refine ha M ρ σ H _ eq _ rp w (fun s1 ρ1 x H1 g1 r1 w1 => ?_) th
  refine hb M ρ1 σ H1 _ eq _ g1.rep w1 (fun s2 ρ2 y H2 g2 r2 w2 => ?_) (th.go g1)
  have r1' := r1.go g1.rep g2
  have g := g1.trans g2
  split at w2
  · rename_i C' ns vs
    obtain ⟨rfl, w3⟩ := w2
    left
    cases s2 with
    | slot i => exact w3.elim
    | val d2 =>
      obtain ⟨w4, w5⟩ := w3
      have a1 : Arg G M H2 x (.obj C' ns vs) := .fz r1'
      have a2 : Arg G M H2 y d2 := .fz r2
      obtain ⟨a, dx, fs, rfl, h1, _, _⟩ := a1.obj
      have ty : ∃ t, TyX G.K H2 y t ∧ PySem.W.notFirst G.K (G.cl C') t = true := by
        by_cases ho : ∃ C2 n2 v2, d2 = .obj C2 n2 v2
        · obtain ⟨C2, n2, v2, rfl⟩ := ho
          cases (show C2 = C' from w4)
          obtain ⟨b, dy, gs, rfl, h2, _, _⟩ := a2.obj
          exact ⟨_, c.ty h2, by unfold PySem.W.notFirst; rw [beq_self_eq_true]; rfl⟩
        · have h4 : d2.tyn.isSome = true := by
            cases d2 <;> first | exact w4 | exact (ho ⟨_, _, _, rfl⟩).elim
          obtain ⟨n, e1⟩ := Option.isSome_iff_exists.mp h4
          exact ⟨_, tyn_of a2 e1, c.nf _ (tyn_names e1)⟩
      obtain ⟨t, ty, nf⟩ := ty
      refine ⟨a, dx, fs, t, rfl, h1, ty, nf, ?_⟩
      refine call_step (ss := [.val (.obj C' ns vs), .val d2]) g (.cons r1' (.cons r2 .nil)) (by simp [slots]) w5 (fun d cs v H' g3 rd hd => ?_) (fun _ _ _ _ _ _ _ _ z => z.elim) rfl
      obtain ⟨b, rfl, q'⟩ := hd
      cases rd
      refine ⟨b, rfl, k (.val _) ρ2 _ H' ?_ (R.bl _) q'⟩
      have ew : wbk ρ2 [.val (.obj C' ns vs), .val d2] cs = ρ2 := wbk_vals ρ2 [.obj C' ns vs, d2] cs
      rw [ew] at g3; exact g3
  · right
    obtain ⟨d1, a1, w3⟩ := r1'.arg g2.rep w2
    obtain ⟨d2, a2, w4⟩ := r2.arg g2.rep w3
    exact ho M H2 x y d1 d2 _ g2.rep.tr a1 a2 w4 Q fun d v H' e rd kd => k (.val d) ρ2 v H' (g.then_ex e) rd kd
theorem px_cmpO {a b : Expr} {wa wb : WE} {f : CmpOp} {r : R2} {op : Op2} {neg : Bool} {psp : PSp} {pos : Pos} (c : ClsI G.K (G.cl C))
    (hr : OpR X (compareOp f) fun x y H Q => rOwn G.K (G.cl C) (spP G 2 false psp) neg x y H Q ∨ r x y H Q) (ho : OpS G op r) (ha : PX G X W a wa) (hb : PX G X W b wb) (hm : behindInMarks f b = false) : PX G X W (.Compare a [f] [b] pos) (wCmpO C psp neg op wa wb) := by
  obtain ⟨ta, pa, sa⟩ := ha
  obtain ⟨tb, pb, sb⟩ := hb
  exact ⟨_, pe_cmpR hr pa pb hm, se_cmpO c sa sb ho⟩
theorem pxt_cmpO {a b : Expr} {wa wb : WE} {f : CmpOp} {r : R2} {op : Op2} {neg : Bool} {psp : PSp} {pos : Pos} (c : ClsI G.K (G.cl C))
    (hr : OpR X (compareOp f) fun x y H Q => rOwn G.K (G.cl C) (spP G 2 false psp) neg x y H Q ∨ r x y H Q) (ho : OpS G op r) (ha : PX G X W a wa) (hb : PX G X W b wb) (hm : behindInMarks f b = false) : PXT G X W (.Compare a [f] [b] pos) (wB (wCmpO C psp neg op wa wb)) := by
  obtain ⟨ta, pa, sa⟩ := ha
  obtain ⟨tb, pb, sb⟩ := hb
  exact ⟨_, pt_cmpR hr pa pb hm, st_b (se_cmpO c sa sb ho)⟩
theorem PMt.own {k : Nat} {psp : PSp} {P : Program} {wd : World} {mg : Str → Option Value} {base : Heap} {CXc : CXT} {m : Str} {n : Nat} (F : PMt G P wd mg base CXc k C m n psp) :
    ∃ f, FnR P wd G.K mg base CXc k f (spP G n false psp) ∧ PySem.W.findIn G.K (.ref (G.cl C)) m = some (some (.ref f)) ∧ PySem.W.isFn G.K (.ref f) = true := by
  obtain ⟨⟨f, fd, ps, h1, h2, h3, _, h5⟩, _⟩ := F
  exact ⟨f, fn_raw h1 h5, h2, h3⟩
theorem eqO_ok {k : Nat} {psp : PSp} (F : PMt G X.prog X.w X.mg X.base CX0 k C "__eq__" 2 psp) (c : ClsI G.K (G.cl C)) (hne : PySem.W.findIn G.K (.ref (G.cl C)) "__ne__" = some (some (.builtin "object.__ne__"))) (hr : Room k X.A) (hu : X.A.units + 64 < cLine) (hK : X.K = G.K := by rfl) :
    OpR X (compareOp .Eq) fun x y H Q => rOwn G.K (G.cl C) (spP G 2 false psp) false x y H Q ∨ rEqU G.K x y H Q := by
  obtain ⟨f, h1, h2, h3⟩ := F.own
  have hm := c.hm
  rw [← hK] at h1 h2 h3 hne hm
  refine L2.OpR.or ?_ (eq_ok hu hK)
  rw [← hK]
  exact op_ownEq h1 ⟨h2, hne, h3, hm⟩ hr
theorem neO_ok {k : Nat} {psp : PSp} (F : PMt G X.prog X.w X.mg X.base CX0 k C "__eq__" 2 psp) (c : ClsI G.K (G.cl C)) (hne : PySem.W.findIn G.K (.ref (G.cl C)) "__ne__" = some (some (.builtin "object.__ne__"))) (hr : Room (k + 1) X.A) (hu : X.A.units + 64 < cLine) (hK : X.K = G.K := by rfl) :
    OpR X (compareOp .NotEq) fun x y H Q => rOwn G.K (G.cl C) (spP G 2 false psp) true x y H Q ∨ rNeU G.K x y H Q := by
  obtain ⟨f, h1, h2, h3⟩ := F.own
  have hm := c.hm
  rw [← hK] at h1 h2 h3 hne hm
  refine L2.OpR.or ?_ (ne_ok hu hK)
  rw [← hK]
  exact op_ownNe h1 ⟨h2, hne, h3, hm⟩ hr
/-! ### len(o), str(o) -/
def okLen (d : D) : Prop := match d with
  | .int n => 0 ≤ n ∧ n < 2 ^ 63
  | _ => False
def okStr (d : D) : Prop := match d with
  | .str _ => True
  | _ => False
def wCallO (C : Str) (psp : PSp) (ok : D → Prop) (wa : WA) : WE := fun ρ q e => wa ρ (fun ss ρ1 => match ss with
  | [.val (.obj C' ns vs)] => C' = C ∧ psp [.fz (.obj C ns vs)] (fun d _ => ok d ∧ q (.val d) ρ1) fun _ _ _ _ => False
  | _ => False) e
theorem se_callO {ta : TA} {wa : WA} {psp : PSp} {ok : D → Prop} {r : List V → Hp → VK → Prop} (ha : SA G W ta wa)
    (hr : ∀ (a dx : Addr) (fs : List (Str × V)) (H : Hp) (Q : VK), H a = some (.ins (G.cl C) dx fs) → spP G 1 false psp [.ref a] H (fun v H' => ∃ d, R G H' v d ∧ ok d ∧ Q v H') (fun _ _ _ => False) → r [.ref a] H Q) : SE G W (tCB r ta) (wCallO C psp ok wa) := by
  intro M ρ σ H q eq Q rp w k th
  refine ha M ρ σ H _ eq _ rp w (fun ss ρ1 xs H1 g1 r1 w1 => ?_) th
  split at w1
  · rename_i C' ns vs
    obtain ⟨rfl, w2⟩ := w1
    cases r1 with
    | cons a t =>
      cases t
      have a1 : Arg G M H1 _ (.obj C' ns vs) := .fz a
      obtain ⟨b, dx, fs, rfl, h1, _, _⟩ := a1.obj
      refine hr b dx fs H1 Q h1 (call_step (ss := [.val (.obj C' ns vs)]) g1 (.cons a .nil) (by simp [slots]) w2 (fun d cs v H' g3 rd hd => ?_) (fun _ _ _ _ _ _ _ _ z => z.elim) rfl)
      have ew : wbk ρ1 [.val (.obj C' ns vs)] cs = ρ1 := wbk_vals ρ1 [.obj C' ns vs] cs
      rw [ew] at g3
      exact ⟨d, rd.ex (fz_ex _ _), hd.1, k (.val d) ρ1 v H' g3 rd hd.2⟩
  · exact w1.elim
theorem px_lenO {k : Nat} {psp : PSp} {x : Str} {p pos : Pos} {e : Expr} {wa : WA} (F : PMt G X.prog X.w X.mg X.base CX0 k C "__len__" 1 psp) (hr : Room (k + 1) X.A) (hg : Gl X x) (hm : X.mg x = none) (hv : bootBuiltins x = some (.builtin "len")) (ha : PXA G X W [e] wa)
    (hK : X.K = G.K := by rfl) (hn : x ≠ "__name__" := by decide) (hd : (x == ("__debug__" : Str)) = false := by decide) (h1 : starEach (e :: []) X.env = (false, eval e X.env) :: starEach [] X.env := by rfl) (h2 : (backTo pos (starEach [] X.env)).any (·.1) = false := by rfl) :
    PX G X W (.Call (.Name x p) [e] [] pos) (wCallO C psp okLen wa) := by
  obtain ⟨f, q1, q2, q3⟩ := F.own
  obtain ⟨ta, pa, sa⟩ := ha
  rw [← hK] at q1 q2 q3
  refine ⟨_, pe_callB (call_lenO q1 q2 q3 hr) hg hm hv pa hn hd h1 h2, se_callO sa fun a dx fs H Q ha h => ⟨a, dx, fs, rfl, ha, ?_⟩⟩
  obtain ⟨hl, M, cells, q, eq, nu, rp, hp, hq, he⟩ := h
  refine ⟨hl, M, cells, q, eq, nu, rp, hp, fun d cs v H' g ro z => ?_, he⟩
  obtain ⟨d', rd, hok, h⟩ := hq d cs v H' g ro z
  cases d' <;> first | exact hok.elim | skip
  cases rd
  exact ⟨_, rfl, hok.1, hok.2, h⟩
theorem px_strO {k : Nat} {psp : PSp} {x : Str} {p pos : Pos} {e : Expr} {wa : WA} (F : PMt G X.prog X.w X.mg X.base CX0 k C "__str__" 1 psp) (hr : Room (k + 2) X.A) (hg : Gl X x) (hm : X.mg x = none) (hv : bootBuiltins x = some (.type "str")) (ha : PXA G X W [e] wa)
    (hK : X.K = G.K := by rfl) (hn : x ≠ "__name__" := by decide) (hd : (x == ("__debug__" : Str)) = false := by decide) (h1 : starEach (e :: []) X.env = (false, eval e X.env) :: starEach [] X.env := by rfl) (h2 : (backTo pos (starEach [] X.env)).any (·.1) = false := by rfl) :
    PX G X W (.Call (.Name x p) [e] [] pos) (wCallO C psp okStr wa) := by
  obtain ⟨f, q1, q2, q3⟩ := F.own
  obtain ⟨ta, pa, sa⟩ := ha
  rw [← hK] at q1 q2 q3
  refine ⟨_, pe_callTy (call_strO q1 q2 q3 hr) hg hm hv pa hn hd h1 h2, se_callO sa fun a dx fs H Q ha h => ⟨a, dx, fs, rfl, ha, ?_⟩⟩
  obtain ⟨hl, M, cells, q, eq, nu, rp, hp, hq, he⟩ := h
  refine ⟨hl, M, cells, q, eq, nu, rp, hp, fun d cs v H' g ro z => ?_, he⟩
  obtain ⟨d', rd, hok, h⟩ := hq d cs v H' g ro z
  cases d' <;> first | exact hok.elim | skip
  cases rd
  exact ⟨_, rfl, h⟩
/-! ### making -/
section
variable {CXc : CXT} {k n : Nat} {psp : PSp} {x : Str} {p pos sp_ : Pos} {e : Expr} {es : List Expr} {wa : WA} {we : WE}
theorem px_make (F : PMk G X.prog X.w X.mg X.base CXc k C false n psp) (hx : ∀ σ, PassesAt CXc X σ fun c d H => W c d σ H) (hr : Room (k + 1) X.A) (hg : Gl X x) (hm : X.mg x = some (.ref (G.cl C))) (ha : PXA G X W (e :: es) wa) (hK : X.K = G.K := by rfl) (hdb : (x == ("__debug__" : Str)) = false := by decide)
    (he : starEach (e :: es) X.env = (false, eval e X.env) :: starEach es X.env := by rfl) (hpl : (backTo pos (starEach es X.env)).any (·.1) = false := by rfl) : PX G X W (.Call (.Name x p) (e :: es) [] pos) (wMake C psp wa) := by
  obtain ⟨⟨f, mk, F1⟩, hn, _⟩ := F
  obtain ⟨ta, pa, sa⟩ := ha
  rw [← hK] at mk F1
  refine ⟨_, pe_makeS (E := fun σ c d H => W c d σ H) mk F1 hr hg hm hx pa hdb he hpl, fun M ρ σ H q eq Q rp w kk th => ?_⟩
  refine sa M ρ σ H _ eq _ rp w (fun ss ρ1 vs H1 g1 r1 w1 => ?_) th
  obtain ⟨ds, hv, w2⟩ := r1.vals w1
  exact make_step rp g1 hv th kk w2 (by have := hn _ _ _ w2; simpa using this)
theorem px_makeS (F : PMk G X.prog X.w X.mg X.base CXc k C true n psp) (hx : ∀ σ, PassesAt CXc X σ fun c d H => W c d σ H) (hr : Room (k + 1) X.A) (hg : Gl X x) (hm : X.mg x = some (.ref (G.cl C))) (ha : PXA G X W (e :: es) wa) (hK : X.K = G.K := by rfl) (hdb : (x == ("__debug__" : Str)) = false := by decide)
    (he : starEach (e :: es) X.env = (false, eval e X.env) :: starEach es X.env := by rfl) (hpl : (backTo pos (starEach es X.env)).any (·.1) = false := by rfl) : PX G X W (.Call (.Name x p) (e :: es) [] pos) (wMakeS C psp wa) := by
  obtain ⟨⟨f, mk, F1⟩, hn, _⟩ := F
  obtain ⟨ta, pa, sa⟩ := ha
  rw [← hK] at mk F1
  refine ⟨_, pe_makeS (E := fun σ c d H => W c d σ H) mk F1 hr hg hm hx pa hdb he hpl, fun M ρ σ H q eq Q rp w kk th => ?_⟩
  refine sa M ρ σ H _ eq _ rp w (fun ss ρ1 vs H1 g1 r1 w1 => ?_) th
  obtain ⟨ds, hv, hz, w2⟩ := r1.vals w1
  exact make_stepS rp g1 hv th kk hz w2
theorem px_makeS0 (F : PMk G X.prog X.w X.mg X.base CXc k C true n psp) (hx : ∀ σ, PassesAt CXc X σ fun c d H => W c d σ H) (hr : Room (k + 1) X.A) (hg : Gl X x) (hm : X.mg x = some (.ref (G.cl C))) (hK : X.K = G.K := by rfl) (hdb : (x == ("__debug__" : Str)) = false := by decide) :
    PX G X W (.Call (.Name x p) [] [] pos) (wMakeS C psp wNil) := by
  obtain ⟨⟨f, mk, F1⟩, hn, _⟩ := F
  rw [← hK] at mk F1
  refine ⟨_, pe_makeS0 (E := fun σ c d H => W c d σ H) mk F1 hr hg hm hx hdb, fun M ρ σ H q eq Q rp w kk th => ?_⟩
  obtain ⟨hz, w2⟩ := w.ok
  exact make_stepS (ds := []) rp (.refl rp) .nil th kk hz w2
/-- c(*e), c a slot that holds the class -/
def wMakeL (C : Str) (i : Nat) (psp : PSp) (we : WE) : WE := fun ρ q e => ρ[i]? = some (.fz (.cls C)) ∧ we ρ (fun s ρ1 => s.val' fun d => match d with
  | .tup ds => ds.length ≤ sizeLine ∧ psp [.ow (.obj C [] []), .fz (.tup ds)] (objOut q C ρ1) fun C' ns vs _ => e C' ns vs ρ1
  | _ => False) e
theorem px_makeL (i : Nat) (F : PMk G X.prog X.w X.mg X.base CXc k C true n psp) (hx : ∀ σ, PassesAt CXc X σ fun c d H => W c d σ H) (hr : Room (k + 1) X.A) (he : PX G X W e we) (hN : X.N[i]? = some x := by rfl) (hv : Vis X.env.scope x := by first | exact Or.inl rfl | exact Or.inr (Or.inl rfl) | exact Or.inr (Or.inr rfl))
    (hK : X.K = G.K := by rfl) (hdb : (x == ("__debug__" : Str)) = false := by decide) (hcd : (x == ("__classdict__" : Str)) = false := by decide) (hst : starEach [.Starred e sp_] X.env = [(true, eval e X.env)] := by rfl) : PX G X W (.Call (.Name x p) [.Starred e sp_] [] pos) (wMakeL C i psp we) := by
  obtain ⟨⟨f, mk, F1⟩, hn, _⟩ := F
  obtain ⟨te, pe, se⟩ := he
  rw [← hK] at mk F1
  refine ⟨_, pe_makeL (E := fun σ c d H => W c d σ H) mk F1 hr hN hv hx pe hdb hcd hst, fun M ρ σ H q eq Q rp w kk th => ?_⟩
  obtain ⟨hi, w⟩ := w
  obtain ⟨v, h1, h2⟩ := rp.fz i _ hi
  cases h2
  refine ⟨h1, se M ρ σ H _ eq _ rp w (fun s ρ1 v H1 g1 rs w1 => ?_) th⟩
  obtain ⟨d, rd, w2⟩ := rs.val' w1
  split at w2
  · obtain ⟨hz, w3⟩ := w2
    cases rd with
    | tup h3 h4 => exact ⟨_, _, rfl, .inl (by rw [hK]; exact sqT_ex (fz_ex _ _) h3), make_stepS rp g1 h4 th kk hz w3⟩
  · exact w2.elim
/-! ### classmethods, properties -/
structure PCm (G : Gx) (P : Program) (wd : World) (mg : Str → Option Value) (base : Heap) (CXc : CXT) (k : Nat) (C m : Str) (n : Nat) (psp : PSp) : Prop where
  ex : ∃ mc p g, ClX.CRead G.K (G.cl C) mc ∧ ClX.CMet G.K (G.cl C) mc m p g ∧ FnR P wd G.K mg base CXc k g (spP G n false psp)
  len : ∀ cells q eq, psp cells q eq → cells.length = n
def wCMeth (C : Str) (psp : PSp) (wo : WE) (wa : WA) : WE := fun ρ q e => wo ρ (fun s ρ1 => s = .val (.cls C) ∧ wa ρ1 (fun ss ρ2 => (slots ss).Nodup ∧ psp (.fz (.cls C) :: ss.map (cellOf ρ2)) (fun d cs => q (.val d) (wbk ρ2 (.val (.cls C) :: ss) cs)) fun C' ns vs cs => e C' ns vs (wbk ρ2 (.val (.cls C) :: ss) cs)) e) e
theorem px_cmeth {o : Expr} {m : Str} {apos : Pos} {wo : WE} {pl : Sem Bool} (F : PCm G X.prog X.w X.mg X.base CXc k C m n psp) (hx : ∀ σ, PassesAt CXc X σ fun c d H => W c d σ H) (hr : Room k X.A) (ho : PX G X W o wo) (ha : PXA G X W (e :: es) wa) (hK : X.K = G.K := by rfl)
    (he : starEach (e :: es) X.env = (false, eval e X.env) :: starEach es X.env := by rfl) (hpl : (backTo pos (starEach es X.env)).any (·.1) = false := by rfl)
    (ht : eval (.Call (.Attribute o m apos) (e :: es) [] pos) X.env = (eval o X.env >>= fun ov => standAt apos.atName >>= fun _ => holding [ov] (getMethod ov m pl) >>= fun q => callWith pos q.1 q.2 (backTo pos (starEach (e :: es) X.env)) (backToKw pos (keywordEach [] X.env))) := by rfl) :
    PX G X W (.Call (.Attribute o m apos) (e :: es) [] pos) (wCMeth C psp wo wa) := by
  obtain ⟨⟨mc, p', g, r, c, F1⟩, hn⟩ := F
  obtain ⟨to, po, so⟩ := ho
  obtain ⟨ta, pa, sa⟩ := ha
  rw [← hK] at r c F1
  refine ⟨_, pe_cmethS (E := fun σ c d H => W c d σ H) po r c F1 hr hx pa he hpl ht, fun M ρ σ H q eq Q rp w kk th => ?_⟩
  refine so M ρ σ H _ eq _ rp w (fun s ρ1 x H1 g1 r1 w1 => ?_) th
  obtain ⟨rfl, w2⟩ := w1
  have rc : R G (Fz M H1) x (.cls C) := r1
  refine ⟨by cases rc; rfl, sa M ρ1 σ H1 _ eq _ g1.rep w2 (fun ss ρ2 vs H2 g2 r2 w3 => ?_) (th.go g1)⟩
  obtain ⟨nd, w4⟩ := w3
  have g := g1.trans g2
  refine call_step (ss := .val (.cls C) :: ss) g (.cons (R.cls C) r2) nd w4 (fun d cs v H' g3 rd hd => kk (.val d) _ v H' g3 rd hd) (fun C' ns xs cs dx H' g3 hx' z => th C' ns xs _ dx H' g3 hx' z) ?_
  have := hn _ _ _ w4
  simp at this
  simp [rss_len r2, this]
end
/-- o.f, a property that hands out the attribute f' -/
structure PProp (G : Gx) (P : Program) (wd : World) (mg : Str → Option Value) (base : Heap) (k : Nat) (C f f' : Str) : Prop where
  ex : ∃ p g fd ps, PropOf G.K (G.cl C) f p g ∧ FnOk P wd G.K mg base CX0 k g fd ps (getSp (G.cl C) f') ∧ Binds G.K fd ps []
theorem px_prop {k : Nat} {f f' : Str} {N : List Str} {i : Nat} {e : Expr} {we : WE} {pos : Pos} (F : PProp G X.prog X.w X.mg X.base k C f f') (c : ClsI G.K (G.cl C)) (hi : N[i]? = some f') (hn : (N.take i).contains f' = false) (hr : Room (k + 1) X.A) (he : PX G X W e we)
    (hb : attributeBase e f X.env (eval e X.env) = eval e X.env := by rfl) (hK : X.K = G.K := by rfl) : PX G X W (.Attribute e f pos) (wFld C N i we) := by
  obtain ⟨p, g, fd, ps, h1, h2, h3⟩ := F
  obtain ⟨te, pe, se⟩ := he
  have cl := c.cl
  rw [← hK] at h1 h2 h3 cl
  refine ⟨_, pe_prop pe cl h1 h2 hr h3 .nil (E := fun _ _ _ => False) (fun _ _ _ _ _ _ _ z => z) hb, fun M ρ σ H q eq Q rp w k th => ?_⟩
  refine se M ρ σ H _ eq _ rp w (fun s ρ1 v H1 g rs w1 => ?_) th
  obtain ⟨d, a1, w2⟩ := rs.arg g.rep w1
  split at w2
  · obtain ⟨rfl, rfl, w3⟩ := w2
    split at w3
    · rename_i x hx
      obtain ⟨a, dx, fs, rfl, ha, hf, hr⟩ := a1.obj
      obtain ⟨u, hu, ru⟩ := hr.get hx
      exact ⟨a, dx, fs, rfl, ha, a, dx, fs, u, rfl, ha, lookup_at hf hi hn hu, k (.val x) ρ1 u H1 g ru w3⟩
    · exact w3.elim
  · exact w2.elim
end
end Pu
/-! ### the pure layer: == of lists that hold instances with an own == -/
namespace Pu
open PySem PySem.Spec PyProof.Rows L2 Lk Evl StX
section
variable {X : Cx} {S : Hp → Prop} {pins : List (Addr × Obj)} {σ : L2.St} {H : Hp} {s : Shared} {n : Nat} {A : Around} {a b : Addr} {xs ys : List V}
/-- two lists whose items are equal, under whatever the comparisons keep -/
theorem rc_listS (sb : Sub X (n + 1) A) (hS : S H) (I : Inv X pins σ H s) (h1 : ∀ H', S H' → H' a = some (.lst xs) ∧ H' b = some (.lst ys)) (hl : xs.length = ys.length)
    (step : ∀ (i : Nat) (x y : V), xs[i]? = some x → ys[i]? = some y → ∀ (A' : Around) (s' : Shared) (H' : Hp) (u v : Value), Sub X n A' → S H' → Inv X pins σ H' s' → RelV x u → RelV y v →
      wpAny (model X.prog X.w) A' (eqBool u v) (fun r s2 => r = true ∧ ∃ H2, Inv X pins σ H2 s2 ∧ S H2) X.xe s') :
    wpAny (model X.prog X.w) A (richCompare .Eq (.ref a) (.ref b)) (fun r s' => r = .bool true ∧ ∃ H', Inv X pins σ H' s' ∧ S H') X.xe s := by
  refine GQ.rc_listG (N := xs.length) sb.room.units0 (fun _ s' => ∃ H', Inv X pins σ H' s' ∧ S H') (fun i s' q => ?_) (fun s' q => ⟨rfl, q⟩) ⟨H, I, hS⟩
  obtain ⟨H1, I1, e1⟩ := q
  obtain ⟨ha, hb⟩ := h1 H1 e1
  obtain ⟨z, its, k, r, e⟩ := I1.hok a _ ha
  obtain ⟨z2, its2, k2, r2, e2⟩ := I1.hok b _ hb
  refine ⟨its.toArray, its2.toArray, k, k2, e, e2, by rw [List.size_toArray, ← r.length], by rw [List.size_toArray, ← r2.length, hl], fun q1 q2 => ?_⟩
  have p1 : i < its.length := by simpa using q1
  have p2 : i < its2.length := by simpa using q2
  have k1 : i < xs.length := by rw [r.length]; exact p1
  have k2' : i < ys.length := by rw [r2.length]; exact p2
  obtain ⟨u, hu, ru⟩ := r.get (List.getElem?_eq_getElem k1)
  obtain ⟨v, hv, rv⟩ := r2.get (List.getElem?_eq_getElem k2')
  rw [List.getElem?_eq_getElem p1] at hu
  rw [List.getElem?_eq_getElem p2] at hv
  cases hu
  cases hv
  exact step i _ _ (List.getElem?_eq_getElem k1) (List.getElem?_eq_getElem k2') A.in1 s' H1 _ _ sb.in1 e1 I1 ru rv
end
/-- the items are equal, each pair by value or by the own == -/
def EqI (C : Str) (psp : PSp) : List D → List D → Prop
  | [], [] => True
  | .obj C1 n1 v1 :: ds, .obj C2 n2 v2 :: es => (C1 = C ∧ C2 = C ∧ psp [.fz (.obj C n1 v1), .fz (.obj C n2 v2)] (fun d _ => d = .bl true) fun _ _ _ _ => False) ∧ EqI C psp ds es
  | .str x :: ds, .str y :: es => x = y ∧ EqI C psp ds es
  | _, _ => False
section
variable {G : Gx} {X : Cx} {W : WX} {M : List Addr} {σ : L2.St} {ρ ρ1 : Env} {H H1 : Hp} {C : Str} {psp : PSp} {k : Nat}
theorem EqI.len : ∀ {ds es : List D}, EqI C psp ds es → ds.length = es.length
  | [], [], _ => rfl
  | [], _ :: _, h => by cases h
  | d :: ds, [], h => by cases d <;> cases h
  | d :: ds, e :: es, h => by
    cases d <;> first | (cases h; done) | skip
    · cases e <;> first | (cases h; done) | skip
      simp [EqI.len h.2]
    · cases e <;> first | (cases h; done) | skip
      simp [EqI.len h.2]
theorem EqI.get : ∀ {ds es : List D} {i : Nat} {d e : D}, EqI C psp ds es → ds[i]? = some d → es[i]? = some e →
    (∃ x, d = .str x ∧ e = .str x) ∨ ∃ n1 v1 n2 v2, d = .obj C n1 v1 ∧ e = .obj C n2 v2 ∧ psp [.fz d, .fz e] (fun d _ => d = .bl true) fun _ _ _ _ => False
  | [], _, _, _, _, _, h, _ => by simp at h
  | _ :: _, [], _, _, _, h, _, h2 => by simp at h2
  | d :: ds, e :: es, 0, _, _, h, h1, h2 => by
    simp at h1 h2
    subst h1
    subst h2
    cases d <;> first | (cases h; done) | skip
    · cases e <;> first | (cases h; done) | skip
      obtain ⟨rfl, _⟩ := h
      exact .inl ⟨_, rfl, rfl⟩
    · cases e <;> first | (cases h; done) | skip
      obtain ⟨⟨rfl, rfl, h⟩, _⟩ := h
      exact .inr ⟨_, _, _, _, rfl, rfl, h⟩
  | d :: ds, e :: es, i + 1, _, _, h, h1, h2 => by
    have h' : EqI C psp ds es := by
      cases d <;> first | (cases h; done) | skip
      · cases e <;> first | (cases h; done) | exact h.2
      · cases e <;> first | (cases h; done) | exact h.2
    exact EqI.get (i := i) h' (by simpa using h1) (by simpa using h2)
def wEqI (C : Str) (psp : PSp) (wa wb : WE) : WE := fun ρ q e => wa ρ (fun s1 ρ1 => wb ρ1 (fun s2 ρ2 => s1.val' fun d1 => s2.val' fun d2 => match d1, d2 with
  | .lst ds, .lst es => EqI C psp ds es ∧ q (.val (.bl true)) ρ2
  | _, _ => False) e) e
/-- what the comparison does: x and y are lists, their items equal -/
def rEqI (G : Gx) (X : Cx) (C : Str) (psp : PSp) : R2 := fun x y H Q => ∃ M σ ρ a b xs ys ds es, Rep G M ρ σ H ∧ x = .ref a ∧ y = .ref b ∧ Fz M H a = some (.lst xs) ∧ Fz M H b = some (.lst ys) ∧ RAll G (Fz M H) xs ds ∧ RAll G (Fz M H) ys es ∧ EqI C psp ds es ∧ ∀ H', Go G M σ ρ H ρ H' → Q (.bl true) H'
theorem op_eqI (F : PMt G X.prog X.w X.mg X.base CX0 k C "__eq__" 2 psp) (c : ClsI G.K (G.cl C)) (hr : Room (k + 1) X.A) (hK : X.K = G.K := by rfl) : OpR X (compareOp .Eq) (rEqI G X C psp) := by
  obtain ⟨f, F1, F2, F3⟩ := F.own
  rw [← hK] at F1 F2 F3
  rintro pins s σ0 H x y u v Q I rx ry ⟨M, σ, ρ, a, b, xs, ys, ds, es, rp, rfl, rfl, ha, hb, hx, hy, he, q⟩
  cases rx
  cases ry
  show wpAny (model X.prog X.w) X.A (richCompare .Eq (.ref a) (.ref b)) (EP X pins σ0 Q) X.xe s
  refine wpAny_mono (rc_listS (n := k) (S := fun H' => Go G M σ ρ H ρ H') ⟨hr, rfl⟩ (.refl rp) I (fun H' g => ⟨fz_ex _ _ _ _ (g.fz rp _ _ ha), fz_ex _ _ _ _ (g.fz rp _ _ hb)⟩) (by rw [hx.len, hy.len, he.len]) fun i x y h1 h2 A' s' H' u v sb g I' ru rv => ?_) (fun r s' z => ?_) fun _ _ z => z
  · obtain ⟨d, e1, r1⟩ := hx.get' h1
    obtain ⟨e, e2, r2⟩ := hy.get' h2
    have r1' := r1.ex (g.fz rp)
    have r2' := r2.ex (g.fz rp)
    rcases he.get e1 e2 with ⟨z, rfl, rfl⟩ | ⟨n1, v1, n2, v2, rfl, rfl, hp⟩
    · cases r1'
      cases r2'
      refine wpAny_mono (eqG_flat A' pins s' σ0 H' (.str z) (.str z) u v (sb.mono (Nat.zero_le _)) I' ru rv ⟨rfl, rfl, by simp [eqV]⟩) (fun r s2 z => ?_) fun _ _ z => z
      obtain ⟨rfl, H2, I2, e⟩ := z
      exact ⟨rfl, H2, I2, g.then_ex e⟩
    · have a1 : Arg G M H' x (.obj C n1 v1) := .fz r1'
      have a2 : Arg G M H' y (.obj C n2 v2) := .fz r2'
      obtain ⟨p, dx, fs, rfl, p1, _, _⟩ := a1.obj
      obtain ⟨p', dy, gs, rfl, p2, _, _⟩ := a2.obj
      cases ru
      cases rv
      by_cases hpp : p = p'
      · subst hpp
        exact SeqAt.EqAt.same (A := A') (s := s') (.ref p) X.prog X.w X.xe _ ⟨rfl, H', I', g⟩
      · obtain ⟨mA, J, _⟩ := ins_get I'.hok p1
        obtain ⟨od, J, _⟩ := J.look
        obtain ⟨mB, J2, _⟩ := ins_get I'.hok p2
        obtain ⟨od2, J2, _⟩ := J2.look
        obtain ⟨m, hF⟩ := I'.fr
        refine GQ.eqBool_refG hpp (PySem.W.cmp_K (op := .Eq) sb.room.units0 hF I'.ok.mod.kin J J2.type (by simp [PySem.W.notFirst]) F2 F3 ?_)
        have hsp : spP G 2 false psp [.ref p, .ref p'] H' (fun v H2 => v = .bl true ∧ Go G M σ ρ H ρ H2) (fun _ _ _ => False) :=
          call_step (ss := [.val (.obj C n1 v1), .val (.obj C n2 v2)]) g (.cons r1' (.cons r2' .nil)) (by simp [slots]) hp (fun d cs v H2 g3 rd hd => by
            subst hd
            cases rd
            have ew : wbk ρ [.val (.obj C n1 v1), .val (.obj C n2 v2)] cs = ρ := wbk_vals ρ [.obj C n1 v1, .obj C n2 v2] cs
            rw [ew] at g3
            exact ⟨rfl, g3⟩) (fun _ _ _ _ _ _ _ _ z => z.elim) rfl
        refine wpAny_mono (run_at F1 sb.room sb.fr I' (vs := [.ref p, .ref p']) (.cons rfl (.cons rfl .nil)) hsp) (fun w s2 z => ?_) fun _ _ z => z
        obtain ⟨v', H2, I2, rv, rfl, g2⟩ := z
        cases rv
        exact ⟨true, rfl, rfl, H2, I2, g2⟩
  · obtain ⟨rfl, H', I', g⟩ := z
    exact ⟨.bl true, H', I', rfl, q H' g⟩
theorem px_eqI {a b : Expr} {wa wb : WE} {pos : Pos} (F : PMt G X.prog X.w X.mg X.base CX0 k C "__eq__" 2 psp) (c : ClsI G.K (G.cl C)) (hr : Room (k + 1) X.A) (ha : PX G X W a wa) (hb : PX G X W b wb) (hm : behindInMarks .Eq b = false) (hK : X.K = G.K := by rfl) : PX G X W (.Compare a [.Eq] [b] pos) (wEqI C psp wa wb) := by
  obtain ⟨ta, pa, sa⟩ := ha
  obtain ⟨tb, pb, sb⟩ := hb
  refine ⟨_, pe_cmpR (op_eqI F c hr hK) pa pb hm, fun M ρ σ H q eq Q rp w k th => ?_⟩
  refine sa M ρ σ H _ eq _ rp w (fun s1 ρ1 x H1 g1 r1 w1 => ?_) th
  refine sb M ρ1 σ H1 _ eq _ g1.rep w1 (fun s2 ρ2 y H2 g2 r2 w2 => ?_) (th.go g1)
  obtain ⟨d1, e1, w3⟩ := (r1.go g1.rep g2).val' w2
  obtain ⟨d2, e2, w4⟩ := r2.val' w3
  split at w4
  · obtain ⟨he, w5⟩ := w4
    obtain ⟨a, xs, rfl, h1, h2⟩ := e1.lst_inv
    obtain ⟨b, ys, rfl, h3, h4⟩ := e2.lst_inv
    exact ⟨M, σ, ρ2, a, b, xs, ys, _, _, g2.rep, rfl, rfl, h1, h3, h2, h4, he, fun H' g => k (.val (.bl true)) ρ2 _ H' ((g1.trans g2).trans g) (R.bl _) w5⟩
  · exact w4.elim
end
end Pu
/-! ### the pure layer: sorted(set(texts)), f-strings, t[::-1] -/
namespace Pu
open PySem PySem.Spec PyProof.Rows L2 Lk Evl StX
/-- the texts of a list or a tuple -/
def D.texts : D → Option (List Str)
  | .lst ds => allM D.asS ds
  | .tup ds => allM D.asS ds
  | _ => none
section
variable {G : Gx} {X : Cx} {W : WX} {M : List Addr} {σ : L2.St} {ρ ρ1 : Env} {H H1 : Hp} {v : V} {d : D}
def wSortSet (we : WE) : WE := fun ρ q e => we ρ (fun s ρ1 => s.gets ρ1 fun d => optK d.texts fun xs => xs.length < 4000 ∧ ∀ ys : List Str, ys.Nodup → (∀ x, x ∈ ys ↔ x ∈ xs) → sortedS ys = true → q (.val (.lst (ys.map D.str))) ρ1) e
theorem Arg.texts {xs : List Str} (a : Arg G M H v d) (h : d.texts = some xs) : ∃ p, v = .ref p ∧ (SqL G.K H p (xs.map V.str) ∨ SqT G.K H p (xs.map V.str)) := by
  unfold D.texts at h
  split at h
  · obtain ⟨p, vs, rfl, e1, e2⟩ := a.lst
    have e3 := allM_map (g := D.str) (fun _ _ => asS_eq) h
    subst e3
    rw [e2.strs_inv] at e1
    exact ⟨p, rfl, .inl (SqL.of e1)⟩
  · obtain ⟨p, vs, rfl, e1, e2, _⟩ := a.tup
    have e3 := allM_map (g := D.str) (fun _ _ => asS_eq) h
    subst e3
    rw [e2.strs_inv] at e1
    exact ⟨p, rfl, .inr e1⟩
  · cases h
theorem px_sortSet {e : Expr} {we : WE} {x1 x2 : Str} {p1 p2 q1 q2 : Pos} (hc : X.calm = true) (hg1 : Gl X x1) (hm1 : X.mg x1 = none) (hv1 : bootBuiltins x1 = some (.builtin "sorted")) (hg2 : Gl X x2) (hm2 : X.mg x2 = none) (hv2 : bootBuiltins x2 = some (.type "set")) (he : PX G X W e we) (hK : X.K = G.K := by rfl)
    (n1 : x1 ≠ "__name__" := by decide) (d1 : (x1 == ("__debug__" : Str)) = false := by decide) (n2 : x2 ≠ "__name__" := by decide) (d2 : (x2 == ("__debug__" : Str)) = false := by decide)
    (s1 : starEach [Expr.Call (.Name x2 p2) [e] [] q2] X.env = (false, eval (.Call (.Name x2 p2) [e] [] q2) X.env) :: starEach [] X.env := by rfl) (r1 : (backTo q1 (starEach [] X.env)).any (·.1) = false := by rfl)
    (s2 : starEach [e] X.env = (false, eval e X.env) :: starEach [] X.env := by rfl) (r2 : (backTo q2 (starEach [] X.env)).any (·.1) = false := by rfl) :
    PX G X W (.Call (.Name x1 p1) [.Call (.Name x2 p2) [e] [] q2] [] q1) (wSortSet we) := by
  obtain ⟨te, pe, se⟩ := he
  refine ⟨_, pe_callB (LkS.cr_sortedX hc) hg1 hm1 hv1 (pa_cons (pe_callTy (LkS.cr_setX hc) hg2 hm2 hv2 (pa_cons pe pa_nil s2) n2 d2 s2 r2) pa_nil s1) n1 d1 s1 r1, fun M ρ σ H q eq Q rp w k th => ?_⟩
  refine se M ρ σ H _ eq _ rp w (fun s ρ1 v H1 g rs w1 => ?_) th
  obtain ⟨d, a1, w2⟩ := rs.arg g.rep w1
  obtain ⟨xs, ex, hl, w3⟩ := optK_of w2
  obtain ⟨p, rfl, hs⟩ := a1.texts ex
  refine ⟨p, xs, rfl, by rw [hK]; exact hs, by unfold scanBound; omega, fun a l ha nd le mem => ?_⟩
  refine ⟨a, l, rfl, upd_same, by unfold scanBound; omega, fun ys b pm st hb => ?_⟩
  have e1 : Ex H1 (upd H1 a (LkS.SetXO X.prog X.w a l)) := Ex.new ha
  have e2 : Ex (upd H1 a (LkS.SetXO X.prog X.w a l)) (upd (upd H1 a (LkS.SetXO X.prog X.w a l)) b (.lst (ys.map V.str))) := Ex.new hb
  have g2 := (g.then_ex e1).then_ex e2
  refine k (.val _) ρ1 _ _ g2 ?_ (w3 ys (pm.nodup_iff.mpr nd) (fun x => (pm.mem_iff).trans (mem x)) st)
  exact r_new_lst (fun c hc => (g.then_ex e1).rep.tr c hc) hb (RAll.of_strs ys)
/-! ### f-strings -/
def wFmt (we : WE) : WE := fun ρ q e => we ρ (fun s ρ1 => s.val' fun d => match d with
  | .str y => y.length ≤ sizeLine ∧ q (.val (.str y)) ρ1
  | .int i => i.natAbs.log2 < 1920 ∧ q (.val (.str (toString i))) ρ1
  | _ => False) e
theorem px_fmt {e : Expr} {we : WE} {pos : Pos} (he : PX G X W e we) : PX G X W (.FormattedValue e (-1) none pos) (wFmt we) := by
  obtain ⟨te, pe, se⟩ := he
  refine ⟨_, pe_fmt pe, fun M ρ σ H q eq Q rp w k th => ?_⟩
  refine se M ρ σ H _ eq _ rp w (fun s ρ1 v H1 g rs w1 => ?_) th
  obtain ⟨d, rd, w2⟩ := rs.val' w1
  split at w2
  · cases rd; exact .inl ⟨_, rfl, w2.1, k (.val (.str _)) ρ1 _ H1 g (R.str _) w2.2⟩
  · cases rd; exact .inr ⟨_, rfl, w2.1, k (.val (.str _)) ρ1 _ H1 g (R.str _) w2.2⟩
  · exact w2.elim
def wJs : List WE → Str → (Str → Env → Prop) → Env → EQ → Prop
  | [], acc, q, ρ, _ => q acc ρ
  | we :: ws, acc, q, ρ, e => we ρ (fun s ρ1 => s.val' fun d => match d with
    | .str y => (acc ++ y).length ≤ sizeLine ∧ wJs ws (acc ++ y) q ρ1 e
    | _ => False) e
def wFstr (ws : List WE) : WE := fun ρ q e => wJs ws Str.empty (fun out ρ1 => q (.val (.str out)) ρ1) ρ e
inductive PXJ (G : Gx) (X : Cx) (W : WX) : List Expr → List WE → Prop where
  | nil : PXJ G X W [] []
  | cons {e : Expr} {we : WE} {es : List Expr} {ws : List WE} (h : PX G X W e we) (r : PXJ G X W es ws) : PXJ G X W (e :: es) (we :: ws)
theorem PXJ.sound {es : List Expr} {ws : List WE} (h : PXJ G X W es ws) : ∃ ts, PJ X es ts ∧ ∀ M ρ σ H acc (q : Str → Env → Prop) eq (Q : Str → Hp → Prop), Rep G M ρ σ H → wJs ws acc q ρ eq → (∀ out ρ' H', Go G M σ ρ H ρ' H' → q out ρ' → Q out H') → Thr G M W σ ρ H eq → tJs ts acc σ H Q := by
  induction h with
  | nil => exact ⟨[], .nil, fun M ρ σ H acc q eq Q rp w k _ => k acc ρ H (.refl rp) w⟩
  | cons h r ih =>
    obtain ⟨t, pt, st⟩ := h
    obtain ⟨ts, pj, ss⟩ := ih
    refine ⟨t :: ts, .cons pt pj, fun M ρ σ H acc q eq Q rp w k th => ?_⟩
    refine st M ρ σ H _ eq _ rp w (fun s ρ1 v H1 g rs w1 => ?_) th
    obtain ⟨d, rd, w2⟩ := rs.val' w1
    split at w2
    · cases rd
      exact ⟨_, rfl, w2.1, ss M ρ1 σ H1 _ q eq Q g.rep w2.2 (fun out ρ' H' g2 h => k out ρ' H' (g.trans g2) h) (th.go g)⟩
    · exact w2.elim
theorem px_fstr {v1 v2 : Expr} {rest : List Expr} {ws : List WE} {pos : Pos} (h : PXJ G X W (v1 :: v2 :: rest) ws) : PX G X W (.JoinedStr (v1 :: v2 :: rest) pos) (wFstr ws) := by
  obtain ⟨ts, pj, ss⟩ := h.sound
  exact ⟨_, pe_joined pj, fun M ρ σ H q eq Q rp w k th => ss M ρ σ H _ _ eq _ rp w (fun out ρ' H' g h => k (.val (.str out)) ρ' _ H' g (R.str _) h) th⟩
/-! ### t[::-1] -/
def wRevT (we : WE) : WE := fun ρ q e => we ρ (fun s ρ1 => s.gets ρ1 fun d => match d with
  | .tup ds => q (.val (.tup ds.reverse)) ρ1
  | _ => False) e
theorem px_revT {e : Expr} {we : WE} {k : Nat} {p1 p2 p3 pos : Pos} (he : PX G X W e we) (hK : X.K = G.K := by rfl) : PX G X W (.Subscript e (.Slice none none (some (.UnaryOp .USub (.Constant (.int 1) k p1) p2)) p3) pos) (wRevT we) := by
  obtain ⟨te, pe, se⟩ := he
  refine ⟨_, LkR.pe_revT pe, fun M ρ σ H q eq Q rp w k th => ?_⟩
  refine se M ρ σ H _ eq _ rp w (fun s ρ1 v H1 g rs w1 => ?_) th
  obtain ⟨d, a1, w2⟩ := rs.arg g.rep w1
  split at w2
  · obtain ⟨a, xs, rfl, e1, e2, _⟩ := a1.tup
    exact ⟨a, xs, rfl, by rw [hK]; exact e1, fun p hp => k (.val _) ρ1 _ _ (g.then_ex (Ex.new hp)) (r_new_tup g.rep.tr hp e2.rev) w2⟩
  · exact w2.elim
end
end Pu
/-! ### the pure layer: __init__(self, *args), getters -/
namespace Pu
open PySem PySem.Spec PyProof.Rows L2 Lk Evl StX
section
variable {G : Gx} {P : Program} {wd : World} {mg : Str → Option Value} {base : Heap} {k : Nat} {f : Addr} {fd : FuncData} {N : List Str} {x qual pv p0 : Str} {st : Stmt} {psp : PSp} {w : WS}
theorem fnXs (F : Fun G.K x qual st f fd) (S : FnScope N ([p0] ++ [pv]) (defScope st)) (hn : 2 ≤ N.length)
    (h0 : ∀ (kV doc pm cdv ct : Value) (an : Option Addr) (a : Value), bindArgs (PySem.W.fnOf x qual (defArgs st) (defBody st) (defScope st) .none kV doc pm an cdv ct) ⟨[a], []⟩ = (newTuple [] >>= fun t => pure [(p0, a), (pv, t)]))
    (h1 : ∀ (kV doc pm cdv ct : Value) (an : Option Addr) (a r : Value) (rs : List Value), bindArgs (PySem.W.fnOf x qual (defArgs st) (defBody st) (defScope st) .none kV doc pm an cdv ct) ⟨a :: r :: rs, []⟩ = (newTuple (r :: rs) >>= fun t => pure [(p0, a), (pv, t)]))
    (hb : ∀ (cdv : Value) (A : Around) (outer : List PySem.Env) (s : Shared) (H : Hp) (E : XK), Room k (A.deeper (envOfC qual (defScope st) s.heap.objs.size f cdv)) →
      PYs G (cxOf (L2.CX P wd) P wd G.K mg base N qual (defScope st) f cdv A outer s H E) (fun cls d _ H => E cls d H) (defBody st) w)
    (hw : PureX false 2 N.length psp w) :
    FnR P wd G.K mg base (L2.CX P wd) (k + 1) f (fun vs H Q E => ∃ ws rest, vs = ws ++ rest ∧ ws.length = 1 ∧ rest.length ≤ sizeLine ∧ ∀ p, H p = none → spP G 2 false psp (ws ++ [V.ref p]) (upd H p (.tup rest)) Q E) := by
  obtain ⟨oc, od, kV, doc, pm, an, cdv, ct, osl, rfl, lk, hcd⟩ := F.ex
  refine fn_star lk hcd S cxUp (bind_star1 (B := fun vs => bindArgs (PySem.W.fnOf x qual (defArgs st) (defBody st) (defScope st) .none kV doc pm an cdv ct) ⟨vs, []⟩) (h0 kV doc pm cdv ct an) (h1 kV doc pm cdv ct an)) fun A outer s H vs Q E hr h => ?_
  obtain ⟨hl, M, cells, q, eq, nu, rp, hp, hq, he⟩ := h
  obtain ⟨t, pt, stt⟩ := hb cdv A outer s H E hr
  have hl' : vs.length ≤ N.length := by rw [hl]; exact hn
  have hc : cells.length = 2 := by rw [rp.len, List.length_map, hl]
  exact ⟨t, pt, stt _ M _ _ H _ _ (reps_start rp hl') (hw cells q eq hc hp) (ends_ok rp hl' hq fun C ns xs cs _ dx H' g hx z => he C ns xs cs dx H' g hx z)⟩
theorem fnGet {C f' : Str} (F : Fun G.K x qual st f fd) (S : FnScope N ["self"] (defScope st)) (hN : N[0]? = some ("self" : Str)) (hb : ∃ p1 p2 p3, defBody st = [.Return (some (.Attribute (.Name "self" p1) f' p2)) p3]) (c : Cls G.K (G.cl C)) (n : NoAttr G.K (G.cl C) f') :
    FnOk P wd G.K mg base CX0 (k + 1) f fd ["self"] (getSp (G.cl C) f') := by
  obtain ⟨oc, od, kV, doc, pm, an, cdv, ct, osl, rfl, lk, hcd⟩ := F.ex
  obtain ⟨p1, p2, p3, hb⟩ := hb
  exact L2.fn_getter lk hcd S hN hb c n
end
end Pu
/-! ### the pure layer: x == [] of a list that holds anything -/
namespace Pu
open PySem PySem.Spec PyProof.Rows L2 Lk Evl StX
def dEq0 : Op2 := fun x y k => match x, y with
  | .lst ds, .lst [] => k (.bl ds.isEmpty)
  | _, _ => False
def dNe0 : Op2 := fun x y k => match x, y with
  | .lst ds, .lst [] => k (.bl (!ds.isEmpty))
  | _, _ => False
section
variable {G : Gx} {X : Cx}
theorem eq0_ok (hu : X.A.units + 64 < cLine) (hK : X.K = G.K := by rfl) : OpR X (compareOp .Eq) fun x y H Q => LkL.rEqLen x y H Q ∨ rEqU G.K x y H Q := L2.OpR.or (LkL.op_eqLen (by omega)) (eq_ok hu hK)
theorem ne0_ok (hu : X.A.units + 64 < cLine) (hK : X.K = G.K := by rfl) : OpR X (compareOp .NotEq) fun x y H Q => LkL.rNeLen x y H Q ∨ rNeU G.K x y H Q := L2.OpR.or (LkL.op_neLen (by omega)) (ne_ok hu hK)
theorem eq0_s : OpS G dEq0 fun x y H Q => LkL.rEqLen x y H Q ∨ rEqU G.K x y H Q := by
  intro M H x y d1 d2 k t a1 a2 h Q q
  unfold dEq0 at h
  split at h
  · rename_i ds
    cases ds with
    | nil => exact .inr (eq_s M H x y (.lst []) (.lst []) k t a1 a2 ⟨by exact ⟨rfl, rfl, h⟩⟩ Q q)
    | cons d ds =>
      obtain ⟨a, xs, rfl, e1, e2⟩ := a1.lst
      obtain ⟨b, ys, rfl, e3, e4⟩ := a2.lst
      refine .inl ⟨a, b, xs, ys, rfl, rfl, e1, e3, ?_, q (.bl _) _ H (Ex.refl _) (R.bl _) h⟩
      rw [e2.len, e4.len]; simp
  · exact h.elim
theorem ne0_s : OpS G dNe0 fun x y H Q => LkL.rNeLen x y H Q ∨ rNeU G.K x y H Q := by
  intro M H x y d1 d2 k t a1 a2 h Q q
  unfold dNe0 at h
  split at h
  · rename_i ds
    cases ds with
    | nil => exact .inr (ne_s M H x y (.lst []) (.lst []) k t a1 a2 ⟨by exact ⟨rfl, rfl, h⟩⟩ Q q)
    | cons d ds =>
      obtain ⟨a, xs, rfl, e1, e2⟩ := a1.lst
      obtain ⟨b, ys, rfl, e3, e4⟩ := a2.lst
      refine .inl ⟨a, b, xs, ys, rfl, rfl, e1, e3, ?_, q (.bl _) _ H (Ex.refl _) (R.bl _) h⟩
      rw [e2.len, e4.len]; simp
  · exact h.elim
end
end Pu
/-! ### the pure layer: tuple(text) -/
namespace Pu
open PySem PySem.Spec PyProof.Rows L2 Lk Evl StX
variable {G : Gx}
def dTupS (x : D) (k : D → Prop) : Prop := match x with
  | .str z => z.length ≤ sizeLine ∧ k (.tup (z.cps.toList.map fun c => .str (sgn c)))
  | _ => False
theorem tupS_s : CallS G (d1 dTupS) LkU.rTupS := d1_s fun M H x d k t a h Q q => by
  unfold dTupS at h
  split at h
  · exact ⟨_, by rw [a.str], h.1, fun l hl => q _ _ _ (Ex.new hl) (r_new_tup t hl (RAll.sgns _)) h.2⟩
  · exact h.elim
end Pu
namespace Pu
open PySem PySem.Spec PyProof.Rows L2 Lk Evl StX

def top (i : Nat) : Stmt := PySem.Challenge.pw_cleandress_k02_holes_as_values.main.body.getD i (.Pass ⟨0, 0, 0, 0⟩)
abbrev s_is_integer : Stmt := (top 8)
abbrev nm_is_integer : List Str := ["value"]
abbrev ps_is_integer : List Str := ["value"]
theorem sc_is_integer : FnScope nm_is_integer ps_is_integer (defScope s_is_integer) := ⟨rfl, rfl, rfl, by decide +kernel, rfl, by decide +kernel, by decide +kernel⟩
abbrev s_is_sign : Stmt := (top 9)
abbrev nm_is_sign : List Str := ["value"]
abbrev ps_is_sign : List Str := ["value"]
theorem sc_is_sign : FnScope nm_is_sign ps_is_sign (defScope s_is_sign) := ⟨rfl, rfl, rfl, by decide +kernel, rfl, by decide +kernel, by decide +kernel⟩
abbrev s_is_text : Stmt := (top 10)
abbrev nm_is_text : List Str := ["value", "sign"]
abbrev ps_is_text : List Str := ["value"]
theorem sc_is_text : FnScope nm_is_text ps_is_text (defScope s_is_text) := ⟨rfl, rfl, rfl, by decide +kernel, rfl, by decide +kernel, by decide +kernel⟩
abbrev s_are_signs : Stmt := (top 11)
abbrev nm_are_signs : List Str := ["value", "one", "other", "sign"]
abbrev ps_are_signs : List Str := ["value"]
theorem sc_are_signs : FnScope nm_are_signs ps_are_signs (defScope s_are_signs) := ⟨rfl, rfl, rfl, by decide +kernel, rfl, by decide +kernel, by decide +kernel⟩
abbrev s_is_run : Stmt := (top 18)
abbrev nm_is_run : List Str := ["value", "signs", "low", "high"]
abbrev ps_is_run : List Str := ["value"]
theorem sc_is_run : FnScope nm_is_run ps_is_run (defScope s_is_run) := ⟨rfl, rfl, rfl, by decide +kernel, rfl, by decide +kernel, by decide +kernel⟩
abbrev s_Hole___init__ : Stmt := (inClass (top 27) 0)
abbrev nm_Hole___init__ : List Str := ["self", "runs", "run"]
abbrev ps_Hole___init__ : List Str := ["self", "runs"]
theorem sc_Hole___init__ : FnScope nm_Hole___init__ ps_Hole___init__ (defScope s_Hole___init__) := ⟨rfl, rfl, rfl, by decide +kernel, rfl, by decide +kernel, by decide +kernel⟩
abbrev s_Hole_of : Stmt := (inClass (top 27) 1)
abbrev nm_Hole_of : List Str := ["cls", "runs"]
abbrev ps_Hole_of : List Str := ["cls", "runs"]
theorem sc_Hole_of : FnScope nm_Hole_of ps_Hole_of (defScope s_Hole_of) := ⟨rfl, rfl, rfl, by decide +kernel, rfl, by decide +kernel, by decide +kernel⟩
abbrev s_Hole_runs : Stmt := (inClass (top 27) 2)
abbrev nm_Hole_runs : List Str := ["self"]
abbrev ps_Hole_runs : List Str := ["self"]
theorem sc_Hole_runs : FnScope nm_Hole_runs ps_Hole_runs (defScope s_Hole_runs) := ⟨rfl, rfl, rfl, by decide +kernel, rfl, by decide +kernel, by decide +kernel⟩
abbrev s_Hole___eq__ : Stmt := (inClass (top 27) 8)
abbrev nm_Hole___eq__ : List Str := ["self", "other"]
abbrev ps_Hole___eq__ : List Str := ["self", "other"]
theorem sc_Hole___eq__ : FnScope nm_Hole___eq__ ps_Hole___eq__ (defScope s_Hole___eq__) := ⟨rfl, rfl, rfl, by decide +kernel, rfl, by decide +kernel, by decide +kernel⟩
abbrev s_Hole___len__ : Stmt := (inClass (top 27) 9)
abbrev nm_Hole___len__ : List Str := ["self"]
abbrev ps_Hole___len__ : List Str := ["self"]
theorem sc_Hole___len__ : FnScope nm_Hole___len__ ps_Hole___len__ (defScope s_Hole___len__) := ⟨rfl, rfl, rfl, by decide +kernel, rfl, by decide +kernel, by decide +kernel⟩
abbrev s_Hole___str__ : Stmt := (inClass (top 27) 11)
abbrev nm_Hole___str__ : List Str := ["self"]
abbrev ps_Hole___str__ : List Str := ["self"]
theorem sc_Hole___str__ : FnScope nm_Hole___str__ ps_Hole___str__ (defScope s_Hole___str__) := ⟨rfl, rfl, rfl, by decide +kernel, rfl, by decide +kernel, by decide +kernel⟩
abbrev s__law_dice : Stmt := (top 29)
abbrev nm__law_dice : List Str := ["script", "at", "cell", "great", "mixed"]
abbrev ps__law_dice : List Str := ["script", "at"]
theorem sc__law_dice : FnScope nm__law_dice ps__law_dice (defScope s__law_dice) := ⟨rfl, rfl, rfl, by decide +kernel, rfl, by decide +kernel, by decide +kernel⟩
abbrev s__law_roll : Stmt := (top 30)
abbrev nm__law_roll : List Str := ["dice", "total", "found", "one", "two"]
abbrev ps__law_roll : List Str := ["dice", "total"]
theorem sc__law_roll : FnScope nm__law_roll ps__law_roll (defScope s__law_roll) := ⟨rfl, rfl, rfl, by decide +kernel, rfl, by decide +kernel, by decide +kernel⟩
abbrev s__law_one_of : Stmt := (top 31)
abbrev nm__law_one_of : List Str := ["dice", "items"]
abbrev ps__law_one_of : List Str := ["dice", "items"]
theorem sc__law_one_of : FnScope nm__law_one_of ps__law_one_of (defScope s__law_one_of) := ⟨rfl, rfl, rfl, by decide +kernel, rfl, by decide +kernel, by decide +kernel⟩
abbrev s__law_mixed : Stmt := (top 32)
abbrev nm__law_mixed : List Str := ["dice", "items", "left", "turn"]
abbrev ps__law_mixed : List Str := ["dice", "items"]
theorem sc__law_mixed : FnScope nm__law_mixed ps__law_mixed (defScope s__law_mixed) := ⟨rfl, rfl, rfl, by decide +kernel, rfl, by decide +kernel, by decide +kernel⟩
abbrev s__law_all_signs : Stmt := (top 33)
abbrev nm__law_all_signs : List Str := []
abbrev ps__law_all_signs : List Str := []
theorem sc__law_all_signs : FnScope nm__law_all_signs ps__law_all_signs (defScope s__law_all_signs) := ⟨rfl, rfl, rfl, by decide +kernel, rfl, by decide +kernel, by decide +kernel⟩
abbrev s__law_signs : Stmt := (top 34)
abbrev nm__law_signs : List Str := ["dice", "upto", "pool", "size"]
abbrev ps__law_signs : List Str := ["dice", "upto"]
theorem sc__law_signs : FnScope nm__law_signs ps__law_signs (defScope s__law_signs) := ⟨rfl, rfl, rfl, by decide +kernel, rfl, by decide +kernel, by decide +kernel⟩
abbrev s__law_run : Stmt := (top 35)
abbrev nm__law_run : List Str := ["dice", "signs", "some", "bounds", "low", "high"]
abbrev ps__law_run : List Str := ["dice", "signs"]
theorem sc__law_run : FnScope nm__law_run ps__law_run (defScope s__law_run) := ⟨rfl, rfl, rfl, by decide +kernel, rfl, by decide +kernel, by decide +kernel⟩
abbrev s__law_hole : Stmt := (top 36)
abbrev nm__law_hole : List Str := ["dice", "signs", "turn"]
abbrev ps__law_hole : List Str := ["dice", "signs"]
theorem sc__law_hole : FnScope nm__law_hole ps__law_hole (defScope s__law_hole) := ⟨rfl, rfl, rfl, by decide +kernel, rfl, by decide +kernel, by decide +kernel⟩
abbrev s__law_odd : Stmt := (top 37)
abbrev nm__law_odd : List Str := ["dice", "some"]
abbrev ps__law_odd : List Str := ["dice"]
theorem sc__law_odd : FnScope nm__law_odd ps__law_odd (defScope s__law_odd) := ⟨rfl, rfl, rfl, by decide +kernel, rfl, by decide +kernel, by decide +kernel⟩
abbrev s__law_is_text : Stmt := (top 38)
abbrev nm__law_is_text : List Str := ["value", "sign"]
abbrev ps__law_is_text : List Str := ["value"]
theorem sc__law_is_text : FnScope nm__law_is_text ps__law_is_text (defScope s__law_is_text) := ⟨rfl, rfl, rfl, by decide +kernel, rfl, by decide +kernel, by decide +kernel⟩
abbrev s__law_is_integer : Stmt := (top 39)
abbrev nm__law_is_integer : List Str := ["value"]
abbrev ps__law_is_integer : List Str := ["value"]
theorem sc__law_is_integer : FnScope nm__law_is_integer ps__law_is_integer (defScope s__law_is_integer) := ⟨rfl, rfl, rfl, by decide +kernel, rfl, by decide +kernel, by decide +kernel⟩
abbrev s__law_are_signs : Stmt := (top 40)
abbrev nm__law_are_signs : List Str := ["value", "one"]
abbrev ps__law_are_signs : List Str := ["value"]
theorem sc__law_are_signs : FnScope nm__law_are_signs ps__law_are_signs (defScope s__law_are_signs) := ⟨rfl, rfl, rfl, by decide +kernel, rfl, by decide +kernel, by decide +kernel⟩
abbrev s__law_told : Stmt := (top 41)
abbrev nm__law_told : List Str := ["runs"]
abbrev ps__law_told : List Str := ["runs"]
theorem sc__law_told : FnScope nm__law_told ps__law_told (defScope s__law_told) := ⟨rfl, rfl, rfl, by decide +kernel, rfl, by decide +kernel, by decide +kernel⟩
abbrev s__law_told_alone : Stmt := (top 42)
abbrev nm__law_told_alone : List Str := ["way", "one", "two"]
abbrev ps__law_told_alone : List Str := ["way", "one", "two"]
theorem sc__law_told_alone : FnScope nm__law_told_alone ps__law_told_alone (defScope s__law_told_alone) := ⟨rfl, rfl, rfl, by decide +kernel, rfl, by decide +kernel, by decide +kernel⟩
abbrev s__law_is_run : Stmt := (top 43)
abbrev nm__law_is_run : List Str := ["value", "low", "high"]
abbrev ps__law_is_run : List Str := ["value"]
theorem sc__law_is_run : FnScope nm__law_is_run ps__law_is_run (defScope s__law_is_run) := ⟨rfl, rfl, rfl, by decide +kernel, rfl, by decide +kernel, by decide +kernel⟩
abbrev s__law_spoilt : Stmt := (top 44)
abbrev nm__law_spoilt : List Str := ["dice", "run", "signs", "low", "high", "way", "odd", "some"]
abbrev ps__law_spoilt : List Str := ["dice", "run"]
theorem sc__law_spoilt : FnScope nm__law_spoilt ps__law_spoilt (defScope s__law_spoilt) := ⟨rfl, rfl, rfl, by decide +kernel, rfl, by decide +kernel, by decide +kernel⟩
abbrev s__law_right : Stmt := (top 45)
abbrev nm__law_right : List Str := ["dice", "signs", "runs", "other", "made", "same", "words", "at", "spoilt", "told", "one", "two", "due", "way", "run"]
abbrev ps__law_right : List Str := ["dice"]
theorem sc__law_right : FnScope nm__law_right ps__law_right (defScope s__law_right) := ⟨rfl, rfl, rfl, by decide +kernel, rfl, by decide +kernel, by decide +kernel⟩
abbrev s_law : Stmt := (top 46)
abbrev nm_law : List Str := ["script", "at", "dice", "turn", "one", "two", "code", "told"]
abbrev ps_law : List Str := ["script"]
theorem sc_law : FnScope nm_law ps_law (defScope s_law) := ⟨rfl, rfl, rfl, by decide +kernel, rfl, by decide +kernel, by decide +kernel⟩
structure Tx (G : Gx) (wd : World) (mg : Str → Option Value) where
  a_is_integer : Addr
  d_is_integer : FuncData
  F_is_integer : Fun G.K "is_integer" "is_integer" s_is_integer a_is_integer d_is_integer
  b_is_integer : Binds G.K d_is_integer ps_is_integer []
  m_is_integer : mg "is_integer" = some (.ref a_is_integer)
  a_is_sign : Addr
  d_is_sign : FuncData
  F_is_sign : Fun G.K "is_sign" "is_sign" s_is_sign a_is_sign d_is_sign
  b_is_sign : Binds G.K d_is_sign ps_is_sign []
  m_is_sign : mg "is_sign" = some (.ref a_is_sign)
  a_is_text : Addr
  d_is_text : FuncData
  F_is_text : Fun G.K "is_text" "is_text" s_is_text a_is_text d_is_text
  b_is_text : Binds G.K d_is_text ps_is_text []
  m_is_text : mg "is_text" = some (.ref a_is_text)
  a_are_signs : Addr
  d_are_signs : FuncData
  F_are_signs : Fun G.K "are_signs" "are_signs" s_are_signs a_are_signs d_are_signs
  b_are_signs : Binds G.K d_are_signs ps_are_signs []
  m_are_signs : mg "are_signs" = some (.ref a_are_signs)
  a_is_run : Addr
  d_is_run : FuncData
  F_is_run : Fun G.K "is_run" "is_run" s_is_run a_is_run d_is_run
  b_is_run : Binds G.K d_is_run ps_is_run []
  m_is_run : mg "is_run" = some (.ref a_is_run)
  a_Hole___init__ : Addr
  d_Hole___init__ : FuncData
  F_Hole___init__ : Fun G.K "__init__" "Hole.__init__" s_Hole___init__ a_Hole___init__ d_Hole___init__
  a_Hole_of : Addr
  d_Hole_of : FuncData
  F_Hole_of : Fun G.K "of" "Hole.of" s_Hole_of a_Hole_of d_Hole_of
  b_Hole_of : Binds G.K d_Hole_of ps_Hole_of []
  a_Hole_runs : Addr
  d_Hole_runs : FuncData
  F_Hole_runs : Fun G.K "runs" "Hole.runs" s_Hole_runs a_Hole_runs d_Hole_runs
  b_Hole_runs : Binds G.K d_Hole_runs ps_Hole_runs []
  a_Hole___eq__ : Addr
  d_Hole___eq__ : FuncData
  F_Hole___eq__ : Fun G.K "__eq__" "Hole.__eq__" s_Hole___eq__ a_Hole___eq__ d_Hole___eq__
  b_Hole___eq__ : Binds G.K d_Hole___eq__ ps_Hole___eq__ []
  a_Hole___len__ : Addr
  d_Hole___len__ : FuncData
  F_Hole___len__ : Fun G.K "__len__" "Hole.__len__" s_Hole___len__ a_Hole___len__ d_Hole___len__
  b_Hole___len__ : Binds G.K d_Hole___len__ ps_Hole___len__ []
  a_Hole___str__ : Addr
  d_Hole___str__ : FuncData
  F_Hole___str__ : Fun G.K "__str__" "Hole.__str__" s_Hole___str__ a_Hole___str__ d_Hole___str__
  b_Hole___str__ : Binds G.K d_Hole___str__ ps_Hole___str__ []
  a__law_dice : Addr
  d__law_dice : FuncData
  F__law_dice : Fun G.K "_law_dice" "_law_dice" s__law_dice a__law_dice d__law_dice
  b__law_dice : Binds G.K d__law_dice ps__law_dice []
  m__law_dice : mg "_law_dice" = some (.ref a__law_dice)
  a__law_roll : Addr
  d__law_roll : FuncData
  F__law_roll : Fun G.K "_law_roll" "_law_roll" s__law_roll a__law_roll d__law_roll
  b__law_roll : Binds G.K d__law_roll ps__law_roll []
  m__law_roll : mg "_law_roll" = some (.ref a__law_roll)
  a__law_one_of : Addr
  d__law_one_of : FuncData
  F__law_one_of : Fun G.K "_law_one_of" "_law_one_of" s__law_one_of a__law_one_of d__law_one_of
  b__law_one_of : Binds G.K d__law_one_of ps__law_one_of []
  m__law_one_of : mg "_law_one_of" = some (.ref a__law_one_of)
  a__law_mixed : Addr
  d__law_mixed : FuncData
  F__law_mixed : Fun G.K "_law_mixed" "_law_mixed" s__law_mixed a__law_mixed d__law_mixed
  b__law_mixed : Binds G.K d__law_mixed ps__law_mixed []
  m__law_mixed : mg "_law_mixed" = some (.ref a__law_mixed)
  a__law_all_signs : Addr
  d__law_all_signs : FuncData
  F__law_all_signs : Fun G.K "_law_all_signs" "_law_all_signs" s__law_all_signs a__law_all_signs d__law_all_signs
  b__law_all_signs : Binds G.K d__law_all_signs ps__law_all_signs []
  m__law_all_signs : mg "_law_all_signs" = some (.ref a__law_all_signs)
  a__law_signs : Addr
  d__law_signs : FuncData
  F__law_signs : Fun G.K "_law_signs" "_law_signs" s__law_signs a__law_signs d__law_signs
  b__law_signs : Binds G.K d__law_signs ps__law_signs []
  m__law_signs : mg "_law_signs" = some (.ref a__law_signs)
  a__law_run : Addr
  d__law_run : FuncData
  F__law_run : Fun G.K "_law_run" "_law_run" s__law_run a__law_run d__law_run
  b__law_run : Binds G.K d__law_run ps__law_run []
  m__law_run : mg "_law_run" = some (.ref a__law_run)
  a__law_hole : Addr
  d__law_hole : FuncData
  F__law_hole : Fun G.K "_law_hole" "_law_hole" s__law_hole a__law_hole d__law_hole
  b__law_hole : Binds G.K d__law_hole ps__law_hole []
  m__law_hole : mg "_law_hole" = some (.ref a__law_hole)
  a__law_odd : Addr
  d__law_odd : FuncData
  F__law_odd : Fun G.K "_law_odd" "_law_odd" s__law_odd a__law_odd d__law_odd
  b__law_odd : Binds G.K d__law_odd ps__law_odd []
  m__law_odd : mg "_law_odd" = some (.ref a__law_odd)
  a__law_is_text : Addr
  d__law_is_text : FuncData
  F__law_is_text : Fun G.K "_law_is_text" "_law_is_text" s__law_is_text a__law_is_text d__law_is_text
  b__law_is_text : Binds G.K d__law_is_text ps__law_is_text []
  m__law_is_text : mg "_law_is_text" = some (.ref a__law_is_text)
  a__law_is_integer : Addr
  d__law_is_integer : FuncData
  F__law_is_integer : Fun G.K "_law_is_integer" "_law_is_integer" s__law_is_integer a__law_is_integer d__law_is_integer
  b__law_is_integer : Binds G.K d__law_is_integer ps__law_is_integer []
  m__law_is_integer : mg "_law_is_integer" = some (.ref a__law_is_integer)
  a__law_are_signs : Addr
  d__law_are_signs : FuncData
  F__law_are_signs : Fun G.K "_law_are_signs" "_law_are_signs" s__law_are_signs a__law_are_signs d__law_are_signs
  b__law_are_signs : Binds G.K d__law_are_signs ps__law_are_signs []
  m__law_are_signs : mg "_law_are_signs" = some (.ref a__law_are_signs)
  a__law_told : Addr
  d__law_told : FuncData
  F__law_told : Fun G.K "_law_told" "_law_told" s__law_told a__law_told d__law_told
  b__law_told : Binds G.K d__law_told ps__law_told []
  m__law_told : mg "_law_told" = some (.ref a__law_told)
  a__law_told_alone : Addr
  d__law_told_alone : FuncData
  F__law_told_alone : Fun G.K "_law_told_alone" "_law_told_alone" s__law_told_alone a__law_told_alone d__law_told_alone
  b__law_told_alone : Binds G.K d__law_told_alone ps__law_told_alone []
  m__law_told_alone : mg "_law_told_alone" = some (.ref a__law_told_alone)
  a__law_is_run : Addr
  d__law_is_run : FuncData
  F__law_is_run : Fun G.K "_law_is_run" "_law_is_run" s__law_is_run a__law_is_run d__law_is_run
  b__law_is_run : Binds G.K d__law_is_run ps__law_is_run []
  m__law_is_run : mg "_law_is_run" = some (.ref a__law_is_run)
  a__law_spoilt : Addr
  d__law_spoilt : FuncData
  F__law_spoilt : Fun G.K "_law_spoilt" "_law_spoilt" s__law_spoilt a__law_spoilt d__law_spoilt
  b__law_spoilt : Binds G.K d__law_spoilt ps__law_spoilt []
  m__law_spoilt : mg "_law_spoilt" = some (.ref a__law_spoilt)
  a__law_right : Addr
  d__law_right : FuncData
  F__law_right : Fun G.K "_law_right" "_law_right" s__law_right a__law_right d__law_right
  b__law_right : Binds G.K d__law_right ps__law_right []
  m__law_right : mg "_law_right" = some (.ref a__law_right)
  a_law : Addr
  d_law : FuncData
  F_law : Fun G.K "law" "law" s_law a_law d_law
  b_law : Binds G.K d_law ps_law []
  m_law : mg "law" = some (.ref a_law)
  m_DressError : mg "DressError" = some (.ref (G.cl "DressError"))
  x_DressError : PySem.W.excIn G.K (G.cl "DressError") [.type "ValueError", .type "Exception", .type "BaseException", .type "object"] "ValueError.__new__" = true
  k_DressError : PySem.W.keepIn G.K (.ref (G.cl "DressError")) = true
  b_DressError : PySem.W.subIn G.K (.ref (G.cl "DressError")) (.type "BaseException") = some true
  t_DressError : PySem.W.typeIn G.K (.ref (G.cl "DressError")) = some (.type "type")
  i_DressError : PySem.W.isClsIn G.K (G.cl "DressError") = true
  m_InvalidHole : mg "InvalidHole" = some (.ref (G.cl "InvalidHole"))
  x_InvalidHole : PySem.W.excIn G.K (G.cl "InvalidHole") [.type "ValueError", .type "Exception", .type "BaseException", .type "object"] "ValueError.__new__" = true
  k_InvalidHole : PySem.W.keepIn G.K (.ref (G.cl "InvalidHole")) = true
  b_InvalidHole : PySem.W.subIn G.K (.ref (G.cl "InvalidHole")) (.type "BaseException") = some true
  t_InvalidHole : PySem.W.typeIn G.K (.ref (G.cl "InvalidHole")) = some (.type "type")
  i_InvalidHole : PySem.W.isClsIn G.K (G.cl "InvalidHole") = true
  m_Hole : mg "Hole" = some (.ref (G.cl "Hole"))
  ci_Hole : ClsI G.K (G.cl "Hole")
  na_Hole_own_runs : NoAttr G.K (G.cl "Hole") "own_runs"
  mk_Hole : Mk G.K (G.cl "Hole") a_Hole___init__
  ne_Hole : PySem.W.findIn G.K (.ref (G.cl "Hole")) "__ne__" = some (some (.builtin "object.__ne__"))
  at_Hole___eq__ : PySem.W.findIn G.K (.ref (G.cl "Hole")) "__eq__" = some (some (.ref a_Hole___eq__))
  fn_Hole___eq__ : PySem.W.isFn G.K (.ref a_Hole___eq__) = true
  at_Hole___len__ : PySem.W.findIn G.K (.ref (G.cl "Hole")) "__len__" = some (some (.ref a_Hole___len__))
  fn_Hole___len__ : PySem.W.isFn G.K (.ref a_Hole___len__) = true
  at_Hole___str__ : PySem.W.findIn G.K (.ref (G.cl "Hole")) "__str__" = some (some (.ref a_Hole___str__))
  fn_Hole___str__ : PySem.W.isFn G.K (.ref a_Hole___str__) = true
  pr_Hole_runs : ∃ p, PropOf G.K (G.cl "Hole") "runs" p a_Hole_runs
  cm_Hole_of : ∃ mc p, ClX.CRead G.K (G.cl "Hole") mc ∧ ClX.CMet G.K (G.cl "Hole") mc "of" p a_Hole_of
  e_InvalidHole_InvalidHole : G.sub "InvalidHole" "InvalidHole" = some true
  t_SIGNS : Tok
  m_SIGNS : mg "SIGNS" = some (.str (Str.ofString "#$0123:_abcdefg") t_SIGNS)
  t_GREATEST : Tok
  m_GREATEST : mg "GREATEST" = some (.int 9999999999999999999999999999999999999999 t_GREATEST)
  t_MAX_RUNS : Tok
  m_MAX_RUNS : mg "MAX_RUNS" = some (.int 4 t_MAX_RUNS)
  t_MAX_COUNT : Tok
  m_MAX_COUNT : mg "MAX_COUNT" = some (.int 3 t_MAX_COUNT)
  n_len : mg "len" = none
  n_isinstance : mg "isinstance" = none
  n_all : mg "all" = none
  n_str : mg "str" = none
  n_int : mg "int" = none
  n_bool : mg "bool" = none
  n_abs : mg "abs" = none
  n_max : mg "max" = none
  n_min : mg "min" = none
  n_range : mg "range" = none
  n_tuple : mg "tuple" = none
  n_list : mg "list" = none
  n_sorted : mg "sorted" = none
  n_zip : mg "zip" = none
  n_repr : mg "repr" = none
  n_set : mg "set" = none
section
variable {G : Gx} {P : Program} {wd : World} {mg : Str → Option Value} {base : Heap}
theorem ok__law_dice (T : Tx G wd mg) : PFnK G P wd mg base CX0 1 "_law_dice" 2 true sp__law_dice := by
  refine ⟨⟨T.a__law_dice, T.d__law_dice, ps__law_dice, fnPk T.F__law_dice sc__law_dice (by decide) (w := w__law_dice G) (fun cdv A outer s H E hr => ?_) (pure__law_dice G), T.m__law_dice, T.F__law_dice.kp, T.b__law_dice⟩, len__law_dice⟩
  exact (py_cons (py_set 2 sc__law_dice.nd rfl (Or.inl rfl) (px_op add_ok add_s (px_op mul_ok mul_s px_int (px_name 1)) px_int))
  (py_cons (py_if (pxt_cmp lt_ok lt_s (px_name 1) (px_callB len_anyK len_s rfl T.n_len (by decide +kernel) (pxa_cons (px_name 0) pxa_nil)) (nomark _))
  (py_one (py_set 2 sc__law_dice.nd rfl (Or.inl rfl) (px_ix ix_ok ix_s (px_name 0) (px_name 1) (fun _ _ => rfl))))
  py_nil)
  (py_cons (py_set 3 sc__law_dice.nd rfl (Or.inl rfl) (px_op mod_ok mod_s (px_callT toInt_ok toInt_s rfl T.n_int (by decide +kernel) (pxa_cons (px_callB call_abs abs_s rfl T.n_abs (by decide +kernel) (pxa_cons (px_name 2) pxa_nil)) pxa_nil)) (px_op pow_ok pow_s (px_op pow_ok pow_s px_int px_int) px_int)))
  (py_cons (py_set 4 sc__law_dice.nd rfl (Or.inl rfl) (px_op add_ok add_s (px_op add_ok add_s (px_op add_ok add_s (px_op mul_ok mul_s (px_op mod_ok mod_s (px_callT toInt_ok toInt_s rfl T.n_int (by decide +kernel) (pxa_cons (px_name 3) pxa_nil)) px_int) px_int) (px_op mul_ok mul_s px_int (px_name 1))) (px_op mul_ok mul_s px_int (px_callT toInt_ok toInt_s rfl T.n_int (by decide +kernel) (pxa_cons (px_cmp lt_ok lt_s (px_name 2) px_int (nomark _)) pxa_nil)))) px_int))
  (py_one (py_retNew (pxn_lst (pxa_cons (px_callB (call_max2 rfl) max2_s rfl T.n_max (by decide +kernel) (pxa_cons px_int (pxa_cons (px_op sub_ok sub_s (px_name 3) (px_op pow_ok pow_s px_int px_int)) pxa_nil))) (pxa_cons (px_op mod_ok mod_s (px_callT toInt_ok toInt_s rfl T.n_int (by decide +kernel) (pxa_cons (px_name 4) pxa_nil)) px_int) (pxa_cons px_int pxa_nil))))))))))
theorem ok__law_roll (T : Tx G wd mg) : PFnK G P wd mg base CX0 1 "_law_roll" 2 false sp__law_roll := by
  refine ⟨⟨T.a__law_roll, T.d__law_roll, ps__law_roll, fnPk T.F__law_roll sc__law_roll (by decide) (w := w__law_roll G) (fun cdv A outer s H E hr => ?_) (pure__law_roll G), T.m__law_roll, T.F__law_roll.kp, T.b__law_roll⟩, len__law_roll⟩
  exact (py_cons (py_if (pxt_cmp gt_ok gt_s (px_ix ix_ok ix_s (px_name 0) px_int (fun _ _ => rfl)) px_int (nomark _))
  (py_cons (py_set 2 sc__law_roll.nd rfl (Or.inl rfl) (px_op mod_ok mod_s (px_callT toInt_ok toInt_s rfl T.n_int (by decide +kernel) (pxa_cons (px_ix ix_ok ix_s (px_name 0) px_int (fun _ _ => rfl)) pxa_nil)) (px_name 1)))
  (py_cons (py_store 0 (pv 0) (px_op fdiv_ok fdiv_s (px_ix ix_ok ix_s (px_name 0) px_int (fun _ _ => rfl)) (px_name 1)) px_int)
  (py_one (py_ret (px_name 2)))))
  py_nil)
  (py_cons (py_store 0 (pv 0) (px_op add_ok add_s (px_ix ix_ok ix_s (px_name 0) px_int (fun _ _ => rfl)) px_int) px_int)
  (py_cons (py_set 3 sc__law_roll.nd rfl (Or.inl rfl) (px_op mod_ok mod_s (px_callT toInt_ok toInt_s rfl T.n_int (by decide +kernel) (pxa_cons (px_op add_ok add_s (px_ix ix_ok ix_s (px_name 0) px_int (fun _ _ => rfl)) (px_op mul_ok mul_s px_int (px_ix ix_ok ix_s (px_name 0) px_int (fun _ _ => rfl)))) pxa_nil)) px_int))
  (py_cons (py_set 4 sc__law_roll.nd rfl (Or.inl rfl) (px_op add_ok add_s (px_op mul_ok mul_s (px_op mod_ok mod_s (px_callT toInt_ok toInt_s rfl T.n_int (by decide +kernel) (pxa_cons (px_op mul_ok mul_s (px_name 3) (px_name 3)) pxa_nil)) px_int) (px_name 3)) (px_op mul_ok mul_s px_int (px_ix ix_ok ix_s (px_name 0) px_int (fun _ _ => rfl)))))
  (py_cons (py_set 4 sc__law_roll.nd rfl (Or.inl rfl) (px_op mod_ok mod_s (px_callT toInt_ok toInt_s rfl T.n_int (by decide +kernel) (pxa_cons (px_name 4) pxa_nil)) px_int))
  (py_one (py_ret (px_op mod_ok mod_s (px_callT toInt_ok toInt_s rfl T.n_int (by decide +kernel) (pxa_cons (px_op fdiv_ok fdiv_s (px_name 4) px_int) pxa_nil)) (px_name 1)))))))))
theorem ok__law_one_of (T : Tx G wd mg) : PFnK G P wd mg base CX0 2 "_law_one_of" 2 false sp__law_one_of := by
  have G__law_roll := ok__law_roll (P := P) (wd := wd) (base := base) T
  refine ⟨⟨T.a__law_one_of, T.d__law_one_of, ps__law_one_of, fnPk T.F__law_one_of sc__law_one_of (by decide) (w := w__law_one_of G) (fun cdv A outer s H E hr => ?_) (pure__law_one_of G), T.m__law_one_of, T.F__law_one_of.kp, T.b__law_one_of⟩, len__law_one_of⟩
  exact (py_one (py_ret (px_ix ix_ok ix_s (px_name 1) (px_callPk G__law_roll (hr.mono (by decide)) rfl (pxa_cons (px_name 0) (pxa_cons (px_callB len_anyK len_s rfl T.n_len (by decide +kernel) (pxa_cons (px_name 1) pxa_nil)) pxa_nil))) (fun _ _ => rfl))))
theorem ok__law_all_signs (T : Tx G wd mg) : PFnK G P wd mg base CX0 1 "_law_all_signs" 0 false sp__law_all_signs := by
  refine ⟨⟨T.a__law_all_signs, T.d__law_all_signs, ps__law_all_signs, fnPk T.F__law_all_signs sc__law_all_signs (by decide) (w := w__law_all_signs G) (fun cdv A outer s H E hr => ?_) (pure__law_all_signs G), T.m__law_all_signs, T.F__law_all_signs.kp, T.b__law_all_signs⟩, len__law_all_signs⟩
  exact (py_one (py_ret px_str))
end
end Pu
/-! ### plain laws of k02: signs, runs -/
namespace Pu
open PySem PySem.Spec PyProof.Rows L2 Lk Evl StX My
/-! ### values of no great size, that are no objects -/
mutual
def big : D → Nat
  | .str z => z.length
  | .lst ds => max ds.length (bigs ds)
  | .tup ds => max ds.length (bigs ds)
  | .non | .bl _ | .int _ | .dct _ _ => 0
  | _ => 2000000
def bigs : List D → Nat
  | [] => 0
  | d :: ds => max (big d) (bigs ds)
end
theorem big_mem {d : D} : ∀ {ds : List D}, d ∈ ds → big d ≤ bigs ds
  | x :: ds, h => by
    rw [bigs]
    rcases List.mem_cons.mp h with rfl | h
    · exact Nat.le_max_left _ _
    · exact Nat.le_trans (big_mem h) (Nat.le_max_right _ _)
theorem bigs_le {n : Nat} : ∀ {ds : List D}, (∀ d ∈ ds, big d ≤ n) → bigs ds ≤ n
  | [], _ => Nat.zero_le _
  | x :: ds, h => by
    rw [bigs]
    exact Nat.max_le.mpr ⟨h _ List.mem_cons_self, bigs_le fun d hd => h d (List.mem_cons_of_mem _ hd)⟩
theorem big_tup {ds : List D} {n : Nat} (h : big (.tup ds) ≤ n) : ds.length ≤ n ∧ ∀ d ∈ ds, big d ≤ n := by
  rw [big] at h
  have := Nat.max_le.mp h
  exact ⟨this.1, fun d hd => Nat.le_trans (big_mem hd) this.2⟩
theorem pys_strs : ∀ zs : List Str, D.pys (zs.map D.str) = some (zs.map PyData.str)
  | [] => rfl
  | z :: zs => by rw [List.map_cons, D.pys, pys_strs zs]; rfl
theorem py_strs (zs : List Str) : (D.lst (zs.map D.str)).py = some (.list (zs.map PyData.str)) := by rw [D.py, pys_strs]; rfl
theorem strs_shaped {zs : List Str} (h : ∀ z ∈ zs, PyData.strOk z = true) : SeqAt.shaped (.list (zs.map PyData.str)) = true := by
  have h1 : ∀ zs : List Str, (∀ z ∈ zs, PyData.strOk z = true) → PyData.canLayAll0 (zs.map PyData.str) = true := by
    intro zs h
    induction zs with
    | nil => simp [PyData.canLayAll0]
    | cons z zs ih => simp [PyData.canLayAll0, PyData.canLay0, h z List.mem_cons_self, ih fun y hy => h y (List.mem_cons_of_mem _ hy)]
  have h2 : ∀ zs : List Str, PyData.depthAll (zs.map PyData.str) ≤ 1 := by
    intro zs
    induction zs with
    | nil => simp [PyData.depthAll]
    | cons z zs ih =>
      simp only [List.map_cons, PyData.depthAll, PyData.depth]
      omega
  show (PyData.canLay0 (.list (zs.map PyData.str)) && decide (PyData.depth (.list (zs.map PyData.str)) ≤ 64)) = true
  rw [Bool.and_eq_true]
  refine ⟨by simp only [PyData.canLay0]; exact h1 zs h, decide_eq_true ?_⟩
  have := h2 zs
  simp only [PyData.depth]
  omega
theorem eqv_nil (ds : List PyData) : PyData.eqv (.list ds) (.list []) = ds.isEmpty := by
  cases ds <;> first | decide +kernel | rfl
theorem eqD_of {x y : D} {p r : PyData} {k : Bool → Prop} (hx : x.py = some p) (hy : y.py = some r) (s1 : SeqAt.shaped p = true) (s2 : SeqAt.shaped r = true) (h : k (PyData.eqv p r)) : EqD x y k := by
  refine ⟨?_⟩
  simp only [hx, hy]
  exact ⟨s1, s2, h⟩
theorem size_le {n : Nat} (h : n ≤ 1000000) : n ≤ sizeLine := Nat.le_trans h (Nat.le_of_ble_eq_true rfl)
theorem tl_size {z : Str} (h : z.length ≤ 1000000) : z.cps.toList.length ≤ sizeLine := by
  rw [show z.cps.toList.length = z.length from tl_len z]; exact size_le h
theorem nd0 : ([] : List Nat).Nodup := List.Pairwise.nil
/-- a def that looks at a value -/
def spLook (f : D → Bool) : PSp := fun cells q _ => ∃ d, cells = [.fz d] ∧ big d ≤ 1000000 ∧ q (.bl (f d)) cells
theorem len_look {f : D → Bool} : Len 1 (spLook f) := fun cells q eq ⟨d, h, _⟩ => by rw [h]; rfl
def onS (f : Str → Bool) : D → Bool
  | .str z => f z
  | _ => false
theorem onS_inv {f : Str → Bool} {d : D} (h : onS f d = true) : ∃ z, d = .str z ∧ f z = true := by
  cases d with
  | str z => exact ⟨z, rfl, h⟩
  | _ => cases h
/-! ### what is looked at -/
def intD : D → Bool
  | .int i => decide (-9999999999999999999999999999999999999999 ≤ i) && decide (i ≤ 9999999999999999999999999999999999999999)
  | _ => false
def txtS (z : Str) : Bool := (tl z).all fun c => decide (c ∈ sigs)
def signS (z : Str) : Bool := decide (z.length = 1) && txtS z
def ltS (a b : Str) : Bool := decide (a.cps.toList < b.cps.toList)
def ascS (xs : List Str) : Bool := (xs.zip (xs.drop 1)).all fun p => ltS p.1 p.2
def asStr : D → Str
  | .str z => z
  | _ => Str.empty
def signsD : D → Bool
  | .tup ds => ds.all (onS signS) && ascS (ds.map asStr)
  | _ => false
def lowD : D → Option Int
  | .int i => if 0 ≤ i ∧ i ≤ 3 then some i else none
  | _ => none
def highD (i : Int) : D → Bool
  | .non => true
  | .int j => decide (max i 1 ≤ j) && decide (j ≤ 3)
  | _ => false
def nilD : D → Bool
  | .tup [] => true
  | _ => false
def runD : D → Bool
  | .tup [s, l, h] => signsD s && (!nilD s && (match lowD l with
    | some i => highD i h
    | none => false))
  | _ => false
theorem strs_inv : ∀ {ds : List D}, ds.all (onS signS) = true → ∃ xs : List Str, ds = xs.map D.str ∧ ∀ x ∈ xs, signS x = true
  | [], _ => ⟨[], rfl, fun _ h => nomatch h⟩
  | d :: ds, h => by
    rw [List.all_cons, Bool.and_eq_true] at h
    obtain ⟨z, rfl, hz⟩ := onS_inv h.1
    obtain ⟨xs, rfl, hx⟩ := strs_inv h.2
    exact ⟨z :: xs, rfl, fun x h => by rcases List.mem_cons.mp h with rfl | h; exact hz; exact hx x h⟩
theorem map_as (xs : List Str) : (xs.map D.str).map asStr = xs := by
  rw [List.map_map]
  induction xs with
  | nil => rfl
  | cons x xs ih => rw [List.map_cons, ih]; rfl
theorem all_signs {xs : List Str} (h : ∀ x ∈ xs, signS x = true) : (xs.map D.str).all (onS signS) = true := by
  rw [List.all_eq_true]
  intro d hd
  obtain ⟨x, hx, rfl⟩ := List.mem_map.mp hd
  exact h x hx
theorem signs_inv {d : D} (h : signsD d = true) : ∃ xs : List Str, d = .tup (xs.map D.str) ∧ (∀ x ∈ xs, signS x = true) ∧ ascS xs = true := by
  cases d with
  | tup ds =>
    have h' : (ds.all (onS signS) && ascS (ds.map asStr)) = true := h
    rw [Bool.and_eq_true] at h'
    obtain ⟨xs, rfl, hx⟩ := strs_inv h'.1
    exact ⟨xs, rfl, hx, by rw [← map_as xs]; exact h'.2⟩
  | _ => cases h
theorem signs_mk {xs : List Str} (h : ∀ x ∈ xs, signS x = true) : signsD (.tup (xs.map D.str)) = ascS xs := by
  show ((xs.map D.str).all (onS signS) && ascS ((xs.map D.str).map asStr)) = ascS xs
  rw [all_signs h, map_as, Bool.true_and]
theorem sign_small {x : Str} (h : signS x = true) : x.length = 1 ∧ ∀ c ∈ tl x, c < 200 := by
  unfold signS txtS at h
  rw [Bool.and_eq_true, decide_eq_true_eq, List.all_eq_true] at h
  refine ⟨h.1, fun c hc => ?_⟩
  have := of_decide_eq_true (h.2 c hc)
  rw [sigs_eq] at this
  simp only [List.mem_cons, List.not_mem_nil, or_false] at this
  omega
theorem sign_ok {x : Str} (h : signS x = true) : PyData.strOk x = true := by
  show x.cps.all (· < 0x110000) = true
  rw [← Array.all_toList, List.all_eq_true]
  intro c hc
  have := (sign_small h).2 c hc
  exact decide_eq_true (by omega)
/-! ### ascending texts -/
theorem lt_trans' {a b c : List Nat} (h1 : a < b) (h2 : b < c) : a < c := List.lt_trans h1 h2
theorem asc_cons {x : Str} {xs : List Str} : ascS (x :: xs) = true ↔ (∀ y ∈ xs, x.cps.toList < y.cps.toList) ∧ ascS xs = true := by
  induction xs generalizing x with
  | nil => exact ⟨fun _ => ⟨fun _ h => (nomatch h), rfl⟩, fun _ => rfl⟩
  | cons y ys ih =>
    have e : ascS (x :: y :: ys) = (ltS x y && ascS (y :: ys)) := rfl
    rw [e, Bool.and_eq_true]
    constructor
    · rintro ⟨h1, h2⟩
      have h1 := of_decide_eq_true h1
      refine ⟨fun z hz => ?_, h2⟩
      rcases List.mem_cons.mp hz with rfl | hz
      · exact h1
      · exact lt_trans' h1 ((ih.mp h2).1 z hz)
    · rintro ⟨h1, h2⟩
      exact ⟨decide_eq_true (h1 y List.mem_cons_self), h2⟩
theorem str_of_toList {a b : Str} (h : a.cps.toList = b.cps.toList) : a = b := by
  cases a; cases b
  simp only [Str.mk.injEq]
  exact Array.toList_inj.mp h
theorem lt_tri {a b : Str} (h1 : ¬ b.cps.toList < a.cps.toList) (ne : a ≠ b) : a.cps.toList < b.cps.toList := by
  by_cases h : a.cps.toList < b.cps.toList
  · exact h
  · exact (ne (str_of_toList (List.le_antisymm (List.not_lt.mp h1) (List.not_lt.mp h)))).elim
theorem asc_sorted : ∀ {ys : List Str}, ys.Nodup → sortedS ys = true → ascS ys = true
  | [], _, _ => rfl
  | [y], _, _ => rfl
  | x :: y :: ys, n, h => by
    have h' : (!ltCps y.cps.toList x.cps.toList && risingS y ys) = true := h
    rw [Bool.and_eq_true, Bool.not_eq_true', ltCps_eq, decide_eq_false_iff_not] at h'
    obtain ⟨n1, n2⟩ := List.nodup_cons.mp n
    have e : ascS (x :: y :: ys) = (ltS x y && ascS (y :: ys)) := rfl
    rw [e, Bool.and_eq_true]
    exact ⟨decide_eq_true (lt_tri h'.1 fun z => n1 (by rw [z]; exact List.mem_cons_self)), asc_sorted n2 h'.2⟩
theorem lt_irr {x : Str} : ¬ x.cps.toList < x.cps.toList := List.lt_irrefl _
theorem asc_eq : ∀ {xs ys : List Str}, ascS xs = true → ascS ys = true → (∀ x, x ∈ xs ↔ x ∈ ys) → xs = ys
  | [], [], _, _, _ => rfl
  | [], y :: ys, _, _, h => by have := (h y).mpr List.mem_cons_self; cases this
  | x :: xs, [], _, _, h => by have := (h x).mp List.mem_cons_self; cases this
  | x :: xs, y :: ys, h1, h2, h => by
    obtain ⟨a1, a2⟩ := asc_cons.mp h1
    obtain ⟨b1, b2⟩ := asc_cons.mp h2
    have e : x = y := by
      rcases List.mem_cons.mp ((h x).mp List.mem_cons_self) with e | e
      · exact e
      · rcases List.mem_cons.mp ((h y).mpr List.mem_cons_self) with z | z
        · exact z.symm
        · exact (lt_irr (lt_trans' (b1 x e) (a1 y z))).elim
    subst e
    congr 1
    refine asc_eq a2 b2 fun z => ⟨fun hz => ?_, fun hz => ?_⟩
    · rcases List.mem_cons.mp ((h z).mp (List.mem_cons_of_mem _ hz)) with e | e
      · subst e; exact (lt_irr (a1 z hz)).elim
      · exact e
    · rcases List.mem_cons.mp ((h z).mpr (List.mem_cons_of_mem _ hz)) with e | e
      · subst e; exact (lt_irr (b1 z hz)).elim
      · exact e
/-- a list is its members sorted just if it ascends -/
theorem eq_sorted {xs ys : List Str} (n : ys.Nodup) (m : ∀ x, x ∈ ys ↔ x ∈ xs) (s : sortedS ys = true) : decide (xs = ys) = ascS xs := by
  cases h : ascS xs with
  | true => exact decide_eq_true (asc_eq h (asc_sorted n s) fun x => (m x).symm)
  | false => exact decide_eq_false fun e => by rw [e, asc_sorted n s] at h; cases h
theorem eqv_str (a b : Str) : PyData.eqv (.str a) (.str b) = decide (a = b) := by
  simp only [PyData.eqv]
  rw [Bool.eq_iff_iff]; simp
theorem eqv_strs : ∀ xs ys : List Str, PyData.eqvAll (xs.map PyData.str) (ys.map PyData.str) = decide (xs = ys)
  | [], [] => by simp [PyData.eqvAll]
  | [], _ :: _ => by simp [PyData.eqvAll]
  | _ :: _, [] => by simp [PyData.eqvAll]
  | x :: xs, y :: ys => by
    simp only [List.map_cons, PyData.eqvAll, eqv_str, eqv_strs xs ys, List.cons.injEq, Bool.decide_and]
theorem eqD_strs {xs ys : List Str} {k : Bool → Prop} (h1 : ∀ z ∈ xs, PyData.strOk z = true) (h2 : ∀ z ∈ ys, PyData.strOk z = true) (hk : k (decide (xs = ys))) : EqD (.lst (xs.map D.str)) (.lst (ys.map D.str)) k :=
  eqD_of (py_strs xs) (py_strs ys) (strs_shaped h1) (strs_shaped h2) (by
    rw [show PyData.eqv (.list (xs.map PyData.str)) (.list (ys.map PyData.str)) = PyData.eqvAll (xs.map PyData.str) (ys.map PyData.str) by simp only [PyData.eqv], eqv_strs]; exact hk)
theorem py_tups (zs : List Str) : (D.tup (zs.map D.str)).py = some (.tuple (zs.map PyData.str)) := by rw [D.py, pys_strs]; rfl
theorem tups_shaped {zs : List Str} (h : ∀ z ∈ zs, PyData.strOk z = true) : SeqAt.shaped (.tuple (zs.map PyData.str)) = true := by
  have := strs_shaped h
  unfold SeqAt.shaped at this ⊢
  simpa [PyData.canLay0, PyData.depth] using this
/-- t == () -/
theorem eqD_nilT {xs : List Str} {k : Bool → Prop} (h : ∀ z ∈ xs, PyData.strOk z = true) (hk : k xs.isEmpty) : EqD (.tup (xs.map D.str)) (.tup []) k :=
  eqD_of (py_tups xs) rfl (tups_shaped h) (by decide +kernel) (by
    have : PyData.eqv (.tuple (xs.map PyData.str)) (.tuple []) = xs.isEmpty := by cases xs <;> simp [PyData.eqv, PyData.eqvAll]
    rw [this]; exact hk)
end Pu
namespace Pu
open PySem PySem.Spec PyProof.Rows L2 Lk Evl StX

open My
abbrev sp_is_integer : PSp := spLook intD
theorem len_is_integer : Len 1 sp_is_integer := len_look
abbrev sp_is_sign : PSp := spLook (onS signS)
theorem len_is_sign : Len 1 sp_is_sign := len_look
abbrev sp_is_text : PSp := spLook (onS txtS)
theorem len_is_text : Len 1 sp_is_text := len_look
abbrev sp_are_signs : PSp := spLook signsD
theorem len_are_signs : Len 1 sp_are_signs := len_look
abbrev sp_is_run : PSp := spLook runD
theorem len_is_run : Len 1 sp_is_run := len_look
/-- reading of is_integer: slots 0:value, owned - -/
def w_is_integer (G : Gx) : WS := (wRet (wAndV (wCall (d2 (dIsi .int)) (wCons (wName 0) (wCons (wC (.ty "int")) wNil))) (wAndV (wNotV (wCall (d2 (dIsi .bool)) (wCons (wName 0) (wCons (wC (.ty "bool")) wNil)))) (wChain dLe dLe (wUn dNeg (wC (.int 9999999999999999999999999999999999999999))) (wName 0) (wC (.int 9999999999999999999999999999999999999999))))))
/-- reading of is_sign: slots 0:value, owned - -/
def w_is_sign (G : Gx) : WS := (wRet (wAndV (wCall (d2 (dIsi .str)) (wCons (wName 0) (wCons (wC (.ty "str")) wNil))) (wAndV (wOp dEq (wCall (d1 dLen) (wCons (wName 0) wNil)) (wC (.int 1))) (wOp dIn (wName 0) (wC (.str (Str.ofString "#$0123:_abcdefg")))))))
/-- reading of is_text: slots 0:value 1:sign, owned - -/
def w_is_text (G : Gx) : WS := (wRet (wAndV (wCall (d2 (dIsi .str)) (wCons (wName 0) (wCons (wC (.ty "str")) wNil))) (wCall (d1 dAll) (wCons (wV (nLc [1] (wItems (wName 0)) (wgName 1) wYes (wOp dIn (wName 1) (wC (.str (Str.ofString "#$0123:_abcdefg")))))) wNil))))
def w_are_signs_1 (G : Gx) : WS := (wRet (wCall (d1 dAll) (wCons (wV (nLc [1, 2] (wZip (wName 0) (wCut (wName 0) (wSome (wC (.int 1))) wNo)) (wgTup 2 (wgCons (wgName 1) (wgCons (wgName 2) wgNil))) wYes (wOp dLt (wName 1) (wName 2)))) wNil)))
/-- reading of are_signs: slots 0:value 1:one 2:other 3:sign, owned - -/
def w_are_signs (G : Gx) : WS := (wSeq (wIfS (wOrT (wNotT (wTru (wCall (d2 (dIsi .tup)) (wCons (wName 0) (wCons (wC (.ty "tuple")) wNil))))) (wNotT (wTru (wCall (d1 dAll) (wCons (wV (nLc [3] (wItems (wName 0)) (wgName 3) wYes (wCallP sp_is_sign (wCons (wName 3) wNil)))) wNil)))))
  (wRet (wC (.bl false)))
  wNext) (w_are_signs_1 G))
def w_is_run_3 (G : Gx) : WS := (wRet (wOrV (wOp dIsN (wName 3) (wC .non)) (wAndV (wCallP sp_is_integer (wCons (wName 3) wNil)) (wChain dLe dLe (wCall (d1 dMaxL) (wCons (wLst (wCons (wName 2) (wCons (wC (.int 1)) wNil))) wNil)) (wName 3) (wC (.int 3))))))
def w_is_run_2 (G : Gx) : WS := (wSeq (wIfS (wOrT (wNotT (wTru (wCallP sp_are_signs (wCons (wName 1) wNil)))) (wOrT (wB (wOp dEq (wName 1) (wTup wNil))) (wOrT (wNotT (wTru (wCallP sp_is_integer (wCons (wName 2) wNil)))) (wNotT (wB (wChain dLe dLe (wC (.int 0)) (wName 2) (wC (.int 3))))))))
  (wRet (wC (.bl false)))
  wNext) (w_is_run_3 G))
def w_is_run_1 (G : Gx) : WS := (wSeq (wAsg [1, 2, 3] (wName 0) (wgTup 3 (wgCons (wgName 1) (wgCons (wgName 2) (wgCons (wgName 3) wgNil))))) (w_is_run_2 G))
/-- reading of is_run: slots 0:value 1:signs 2:low 3:high, owned - -/
def w_is_run (G : Gx) : WS := (wSeq (wIfS (wOrT (wNotT (wTru (wCall (d2 (dIsi .tup)) (wCons (wName 0) (wCons (wC (.ty "tuple")) wNil))))) (wB (wOp dNe (wCall (d1 dLen) (wCons (wName 0) wNil)) (wC (.int 3)))))
  (wRet (wC (.bl false)))
  wNext) (w_is_run_1 G))
theorem pure_is_integer (G : Gx) : Pure false 1 1 sp_is_integer (w_is_integer G) := by
  intro cells q eq hl hp
  obtain ⟨d, rfl, hb, k⟩ := hp
  cases d <;> first | (exact absurd (show 2000000 ≤ 1000000 from hb) (by decide)) | (exact ⟨rfl, rfl, k⟩) | skip
  · rename_i b
    exact ⟨rfl, rfl, rfl, k⟩
  · rename_i i
    have fin : ∀ b, intD (.int i) = b → q (.bl b) [.fz (.int i)] := fun b e => by subst e; exact k
    refine ⟨rfl, rfl, ite2 (fun h1 => ⟨rfl, fin _ ?_⟩) (fun h1 => ⟨rfl, fin _ ?_⟩)⟩
    · show (decide _ && decide _) = _
      rw [h1, Bool.true_and]
    · show (decide _ && decide _) = _
      rw [h1, Bool.false_and]
theorem sign_in {z : Str} (h : decide ((z.length : Int) = 1) = true) {k : Bool → Prop} (hk : k (signS z)) : dInB (.str z) (.str (Str.ofString "#$0123:_abcdefg")) k := by
  have h1 : z.length = 1 := by have := of_decide_eq_true h; omega
  have h2 : (tl z).length = 1 := by rw [tl_len]; exact h1
  unfold signS txtS at hk
  rw [h1] at hk
  unfold dInB
  cases e : tl z with
  | nil => rw [e] at h2; cases h2
  | cons c r =>
    cases r with
    | nil =>
      have e' : z.cps.toList = [c] := e
      simp only [e']
      rw [e] at hk
      have e2 : (decide (1 = 1) && [c].all fun c => decide (c ∈ sigs)) = decide (c ∈ sigs) := by simp
      rw [e2] at hk
      exact hk
    | cons c2 r => rw [e] at h2; simp at h2
theorem pure_is_sign (G : Gx) : Pure false 1 1 sp_is_sign (w_is_sign G) := by
  intro cells q eq hl hp
  obtain ⟨d, rfl, hb, k⟩ := hp
  cases d <;> first | (exact absurd (show 2000000 ≤ 1000000 from hb) (by decide)) | (exact ⟨rfl, rfl, k⟩) | skip
  rename_i z
  have fin : ∀ b, signS z = b → q (.bl b) [.fz (.str z)] := fun b e => by subst e; exact k
  refine ⟨rfl, size_le hb, ite2 (fun h1 => ?_) (fun h1 => ⟨rfl, fin _ ?_⟩)⟩
  · show dInB (.str z) (.str (Str.ofString "#$0123:_abcdefg")) fun b => false = false ∧ q (.bl b) [.fz (.str z)]
    exact sign_in h1 ⟨rfl, fin _ rfl⟩
  have h2 := of_decide_eq_false h1
  unfold signS
  rw [decide_eq_false (by omega), Bool.false_and]
theorem pure_is_text (G : Gx) : Pure false 1 2 sp_is_text (w_is_text G) := by
  intro cells q eq hl hp
  obtain ⟨d, rfl, hb, k⟩ := hp
  cases d <;> first | (exact absurd (show 2000000 ≤ 1000000 from hb) (by decide)) | (exact ⟨rfl, rfl, k⟩) | skip
  rename_i z
  refine ⟨rfl, lc_m (fun c => .bl (decide (c ∈ sigs))) (tl_size hb) (fun c K1 K2 hc k => k) (all_m ⟨rfl, k⟩)⟩
theorem cut_1 {α : Type} (xs : List α) : cutA xs (some 1) none = xs.drop 1 := by
  unfold cutA HT.sIx
  cases xs with
  | nil => simp
  | cons x xs => simp
theorem pure_are_signs (G : Gx) : Pure false 1 4 sp_are_signs (w_are_signs G) := by
  intro cells q eq hl hp
  obtain ⟨d, rfl, hb, k⟩ := hp
  cases d <;> first | (exact absurd (show 2000000 ≤ 1000000 from hb) (by decide)) | (exact ⟨rfl, rfl, k⟩) | skip
  rename_i ds
  obtain ⟨h1, h2⟩ := big_tup hb
  refine ⟨rfl, lc_f (fun d => .bl (onS signS d)) (size_le h1) (fun d K1 K2 hd k => ⟨nd0, d, rfl, h2 d hd, k⟩) (all_m ?_)⟩
  refine ite2 (fun h => ?_) (fun h => ?_)
  · have h' : ds.all (onS signS) = false := by simpa using h
    refine ⟨rfl, ?_⟩
    have : signsD (.tup ds) = false := by show (ds.all (onS signS) && _) = false; rw [h', Bool.false_and]
    rw [this] at k; exact k
  · have h' : ds.all (onS signS) = true := by simpa using h
    obtain ⟨xs, rfl, hx⟩ := strs_inv h'
    rw [signs_mk hx] at k
    rw [List.length_map] at h1
    refine (?_ : LcOk _ _ _ _ _ (zipD (xs.map D.str) (cutA (xs.map D.str) (some 1) none)) _)
    have ez : zipD (xs.map D.str) (cutA (xs.map D.str) (some 1) none) = (xs.zip (xs.drop 1)).map fun p => D.tup [.str p.1, .str p.2] := by
      rw [cut_1, ← List.map_drop]
      unfold zipD
      rw [List.zip_map, List.map_map]
      rfl
    rw [ez]
    refine lc_m (fun p : Str × Str => .bl (ltS p.1 p.2)) ?_ (fun p K1 K2 hp k => ⟨rfl, rfl, k⟩) (all_m ⟨rfl, k⟩)
    rw [List.length_zip]
    exact Nat.le_trans (Nat.min_le_left _ _) (size_le h1)
theorem three {α : Type} {ds : List α} (h : ds.length = 3) : ∃ a b c, ds = [a, b, c] := by
  cases ds with
  | nil => cases h
  | cons a ds =>
    cases ds with
    | nil => cases h
    | cons b ds =>
      cases ds with
      | nil => cases h
      | cons c ds =>
        cases ds with
        | nil => exact ⟨a, b, c, rfl⟩
        | cons d ds => simp at h
theorem run_short {ds : List D} (h : ds.length ≠ 3) : runD (.tup ds) = false := by
  cases ds with
  | nil => rfl
  | cons a ds =>
    cases ds with
    | nil => rfl
    | cons b ds =>
      cases ds with
      | nil => rfl
      | cons c ds =>
        cases ds with
        | nil => exact (h rfl).elim
        | cons d ds => rfl
theorem run_eq (s l h : D) : runD (.tup [s, l, h]) = (signsD s && (!nilD s && (match lowD l with
    | some i => highD i h
    | none => false))) := rfl
theorem nil_tup (xs : List Str) : nilD (.tup (xs.map D.str)) = xs.isEmpty := by cases xs <;> rfl
theorem int_low {l : D} (h : intD l = false) : lowD l = none := by
  cases l <;> first | rfl | skip
  rename_i i
  have h' : (decide (-9999999999999999999999999999999999999999 ≤ i) && decide (i ≤ 9999999999999999999999999999999999999999)) = false := h
  show (if 0 ≤ i ∧ i ≤ 3 then some i else none) = none
  rw [if_neg]
  rintro ⟨a, b⟩
  rw [decide_eq_true (by omega), decide_eq_true (by omega)] at h'
  cases h'
theorem int_inv {l : D} (h : intD l = true) : ∃ i, l = .int i := by cases l <;> first | exact ⟨_, rfl⟩ | cases h
theorem int_high {i : Int} {h : D} (e : intD h = false) (n : h.isNon = false) : highD i h = false := by
  cases h <;> first | rfl | (cases n; done) | skip
  rename_i j
  have h' : (decide (-9999999999999999999999999999999999999999 ≤ j) && decide (j ≤ 9999999999999999999999999999999999999999)) = false := e
  show (decide (max i 1 ≤ j) && decide (j ≤ 3)) = false
  by_cases h3 : j ≤ 3
  · by_cases h1 : max i 1 ≤ j
    · rw [decide_eq_true (by omega), decide_eq_true (by omega)] at h'
      cases h'
    · rw [decide_eq_false h1]; rfl
  · rw [decide_eq_false h3, Bool.and_false]
theorem pure_is_run (G : Gx) : Pure false 1 4 sp_is_run (w_is_run G) := by
  intro cells q eq hl hp
  obtain ⟨d, rfl, hb, k⟩ := hp
  cases d <;> first | (exact absurd (show 2000000 ≤ 1000000 from hb) (by decide)) | (exact ⟨rfl, rfl, k⟩) | skip
  rename_i ds
  obtain ⟨h1, h2⟩ := big_tup hb
  refine ⟨rfl, ite2 (fun h => ⟨rfl, ?_⟩) (fun h => ?_)⟩
  · rw [run_short (fun z => by rw [z] at h; cases h)] at k; exact k
  · obtain ⟨s, l, u, rfl⟩ := three (ds := ds) (by have := of_decide_eq_true (by simpa using h : decide ((ds.length : Int) = 3) = true); omega)
    have fin : ∀ b, runD (.tup [s, l, u]) = b → q (.bl b) [.fz (.tup [s, l, u])] := fun b e => by subst e; exact k
    refine ⟨npl rfl, rfl, rfl, nd0, s, rfl, h2 s (by simp), ite2 (fun hs => ⟨rfl, fin _ ?_⟩) (fun hs => ?_)⟩
    · rw [run_eq, show signsD s = false by simpa using hs, Bool.false_and]
    · have hs' : signsD s = true := by simpa using hs
      obtain ⟨xs, rfl, hx, ha⟩ := signs_inv hs'
      refine ⟨lenOk, eqD_nilT (fun z hz => sign_ok (hx z hz)) (ite2 (fun hn => ⟨rfl, fin _ ?_⟩) (fun hn => ?_))⟩
      · rw [run_eq, nil_tup, hn, hs']; rfl
      · refine ⟨nd0, l, rfl, h2 l (by simp), ite2 (fun hi => ⟨rfl, fin _ ?_⟩) (fun hi => ?_)⟩
        · rw [run_eq, int_low (by simpa using hi)]; simp
        · obtain ⟨i, rfl⟩ := int_inv (show intD l = true by simpa using hi)
          refine ite2 (fun h0 => ite2 (fun h3 => ⟨rfl, fin _ ?_⟩) (fun h3 => ?_)) (fun h0 => ⟨rfl, fin _ ?_⟩)
          · have g0 := of_decide_eq_true h0
            have g3 : ¬ i ≤ 3 := of_decide_eq_false (by simpa using h3)
            rw [run_eq, show lowD (.int i) = none from if_neg fun z => g3 z.2]; simp
          · have g0 := of_decide_eq_true h0
            have g3 : i ≤ 3 := of_decide_eq_true (by simpa using h3)
            have e : runD (.tup [.tup (xs.map D.str), .int i, u]) = highD i u := by
              rw [run_eq, hs', nil_tup, hn, show lowD (.int i) = some i from if_pos ⟨g0, g3⟩]; rfl
            rw [e] at fin
            refine ite2 (fun hu => ⟨rfl, fin _ ?_⟩) (fun hu => ⟨nd0, u, rfl, h2 u (by simp), ite2 (fun hj => ?_) (fun hj => ⟨rfl, fin _ (int_high hj hu)⟩)⟩)
            · cases u <;> first | rfl | cases hu
            · obtain ⟨j, rfl⟩ := int_inv hj
              refine ⟨lenOk, ⟨(by simp), fun m hm hmax => ?_⟩⟩
              have em : m = max i 1 := by
                have a1 := hmax i (by simp)
                have a2 := hmax 1 (by simp)
                rcases List.mem_cons.mp hm with e | e
                · omega
                · have := List.mem_singleton.mp e; omega
              have eh : highD i (.int j) = (decide (m ≤ j) && decide (j ≤ 3)) := by rw [em]; rfl
              refine ite2 (fun q1 => ⟨rfl, fin _ ?_⟩) (fun q1 => ⟨rfl, fin _ ?_⟩)
              · rw [eh, q1, Bool.true_and]
              · rw [eh, q1, Bool.false_and]
          · have g0 := of_decide_eq_false h0
            rw [run_eq, show lowD (.int i) = none from if_neg fun z => g0 z.1]; simp
section
variable {G : Gx} {P : Program} {wd : World} {mg : Str → Option Value} {base : Heap}
theorem ok_is_integer (T : Tx G wd mg) : PFnK G P wd mg base CX0 1 "is_integer" 1 false sp_is_integer := by
  refine ⟨⟨T.a_is_integer, T.d_is_integer, ps_is_integer, fnPk T.F_is_integer sc_is_integer (by decide) (w := w_is_integer G) (fun cdv A outer s H E hr => ?_) (pure_is_integer G), T.m_is_integer, T.F_is_integer.kp, T.b_is_integer⟩, len_is_integer⟩
  exact (py_one (py_ret (px_and (px_callB isiK (isi_s .int) rfl T.n_isinstance (by decide +kernel) (pxa_cons (px_name 0) (pxa_cons (px_ty rfl T.n_int (by decide +kernel)) pxa_nil))) (px_and (px_not (px_callB isiK (isi_s .bool) rfl T.n_isinstance (by decide +kernel) (pxa_cons (px_name 0) (pxa_cons (px_ty rfl T.n_bool (by decide +kernel)) pxa_nil)))) (px_one (px_chain le_ok le_s le_ok le_s (px_un un_neg neg_s (px_gint rfl T.m_GREATEST)) (px_name 0) (px_gint rfl T.m_GREATEST)))))))
theorem ok_is_sign (T : Tx G wd mg) : PFnK G P wd mg base CX0 1 "is_sign" 1 false sp_is_sign := by
  refine ⟨⟨T.a_is_sign, T.d_is_sign, ps_is_sign, fnPk T.F_is_sign sc_is_sign (by decide) (w := w_is_sign G) (fun cdv A outer s H E hr => ?_) (pure_is_sign G), T.m_is_sign, T.F_is_sign.kp, T.b_is_sign⟩, len_is_sign⟩
  exact (py_one (py_ret (px_and (px_callB isiK (isi_s .str) rfl T.n_isinstance (by decide +kernel) (pxa_cons (px_name 0) (pxa_cons (px_ty rfl T.n_str (by decide +kernel)) pxa_nil))) (px_and (px_cmp (eq_ok hr.units) eq_s (px_callB len_anyK len_s rfl T.n_len (by decide +kernel) (pxa_cons (px_name 0) pxa_nil)) px_int (nomark _)) (px_one (px_cmp (in_ok hr.units65) in_s (px_name 0) (px_gstr rfl T.m_SIGNS) (by rfl)))))))
theorem ok_is_text (T : Tx G wd mg) : PFnK G P wd mg base CX0 1 "is_text" 1 false sp_is_text := by
  refine ⟨⟨T.a_is_text, T.d_is_text, ps_is_text, fnPk T.F_is_text sc_is_text (by decide) (w := w_is_text G) (fun cdv A outer s H E hr => ?_) (pure_is_text G), T.m_is_text, T.F_is_text.kp, T.b_is_text⟩, len_is_text⟩
  exact (py_one (py_ret (px_and (px_callB isiK (isi_s .str) rfl T.n_isinstance (by decide +kernel) (pxa_cons (px_name 0) (pxa_cons (px_ty rfl T.n_str (by decide +kernel)) pxa_nil))) (px_one (px_callB (all_ok rfl) all_s rfl T.n_all (by decide +kernel) (pxa_cons (pxn (pxn_lc (own := [("sign", 1)]) (by decide) rfl sc_is_text.nd (pxi_any (px_name 0)) (blkOk_by (N := nm_is_text) (sc := defScope s_is_text) (by decide +kernel)) (fun _ _ _ _ _ => (pxg_name 1 sc_is_text.nd rfl (Or.inl rfl))) (fun _ _ _ _ _ => pxts_nil) (fun _ _ _ _ _ => (px_cmp (in_ok hr.units65) in_s (px_name 1) (px_gstr rfl T.m_SIGNS) (by rfl))))) pxa_nil))))))
theorem ok_are_signs (T : Tx G wd mg) : PFnK G P wd mg base CX0 2 "are_signs" 1 false sp_are_signs := by
  have G_is_sign := ok_is_sign (P := P) (wd := wd) (base := base) T
  refine ⟨⟨T.a_are_signs, T.d_are_signs, ps_are_signs, fnPk T.F_are_signs sc_are_signs (by decide) (w := w_are_signs G) (fun cdv A outer s H E hr => ?_) (pure_are_signs G), T.m_are_signs, T.F_are_signs.kp, T.b_are_signs⟩, len_are_signs⟩
  exact (py_cons (py_if (pxw (pxw_or (pxt_not (pxt_val (px_callB isiK (isi_s .tup) rfl T.n_isinstance (by decide +kernel) (pxa_cons (px_name 0) (pxa_cons (px_ty rfl T.n_tuple (by decide +kernel)) pxa_nil))))) (pxw_or1 (pxt_not (pxt_val (px_callB (all_ok rfl) all_s rfl T.n_all (by decide +kernel) (pxa_cons (pxn (pxn_lc (own := [("sign", 3)]) (by decide) rfl sc_are_signs.nd (pxi_any (px_name 0)) (blkOk_by (N := nm_are_signs) (sc := defScope s_are_signs) (by decide +kernel)) (fun _ _ _ _ _ => (pxg_name 3 sc_are_signs.nd rfl (Or.inl rfl))) (fun _ _ _ _ _ => pxts_nil) (fun _ _ _ _ _ => (px_callPk G_is_sign (hr.mono (by decide)) rfl (pxa_cons (px_name 3) pxa_nil))))) pxa_nil)))))))
  (py_one (py_ret px_bl))
  py_nil)
  (py_one (py_ret (px_callB (all_ok rfl) all_s rfl T.n_all (by decide +kernel) (pxa_cons (pxn (pxn_lc (own := [("one", 1), ("other", 2)]) (by decide) rfl sc_are_signs.nd (pxi_zip rfl T.n_zip (px_name 0) (px_cut (px_name 0) (pxo_some px_int) pxo_none)) (blkOk_by (N := nm_are_signs) (sc := defScope s_are_signs) (by decide +kernel)) (fun _ _ _ _ _ => (pxg_tup rfl (pxgs_cons (pxg_name 1 sc_are_signs.nd rfl (Or.inl rfl)) (pxgs_cons (pxg_name 2 sc_are_signs.nd rfl (Or.inl rfl)) pxgs_nil)))) (fun _ _ _ _ _ => pxts_nil) (fun _ _ _ _ _ => (px_cmp lt_ok lt_s (px_name 1) (px_name 2) (nomark _))))) pxa_nil)))))
theorem ok_is_run (T : Tx G wd mg) : PFnK G P wd mg base CX0 3 "is_run" 1 false sp_is_run := by
  have G_are_signs := ok_are_signs (P := P) (wd := wd) (base := base) T
  have G_is_integer := ok_is_integer (P := P) (wd := wd) (base := base) T
  refine ⟨⟨T.a_is_run, T.d_is_run, ps_is_run, fnPk T.F_is_run sc_is_run (by decide) (w := w_is_run G) (fun cdv A outer s H E hr => ?_) (pure_is_run G), T.m_is_run, T.F_is_run.kp, T.b_is_run⟩, len_is_run⟩
  exact (py_cons (py_if (pxw (pxw_or (pxt_not (pxt_val (px_callB isiK (isi_s .tup) rfl T.n_isinstance (by decide +kernel) (pxa_cons (px_name 0) (pxa_cons (px_ty rfl T.n_tuple (by decide +kernel)) pxa_nil))))) (pxw_or1 (pxt_cmp (ne_ok hr.units) ne_s (px_callB len_anyK len_s rfl T.n_len (by decide +kernel) (pxa_cons (px_name 0) pxa_nil)) px_int (nomark _)))))
  (py_one (py_ret px_bl))
  py_nil)
  (py_cons (py_asg (is := [1, 2, 3]) (px_name 0) (pxg_tup rfl (pxgs_cons (pxg_name 1 sc_is_run.nd rfl (Or.inl rfl)) (pxgs_cons (pxg_name 2 sc_is_run.nd rfl (Or.inl rfl)) (pxgs_cons (pxg_name 3 sc_is_run.nd rfl (Or.inl rfl)) pxgs_nil)))))
  (py_cons (py_if (pxw (pxw_or (pxt_not (pxt_val (px_callPk G_are_signs (hr.mono (by decide)) rfl (pxa_cons (px_name 1) pxa_nil)))) (pxw_or (pxt_cmp (eq_ok hr.units) eq_s (px_name 1) (px_tup pxa_nil) (nomark _)) (pxw_or (pxt_not (pxt_val (px_callPk G_is_integer (hr.mono (by decide)) rfl (pxa_cons (px_name 2) pxa_nil)))) (pxw_or1 (pxt_not (pxt_chain le_ok le_s le_ok le_s px_int (px_name 2) (px_gint rfl T.m_MAX_COUNT))))))))
  (py_one (py_ret px_bl))
  py_nil)
  (py_one (py_ret (px_or (px_cmp op_isN1 isN_s (px_name 3) px_non (nomark _)) (px_one (px_and (px_callPk G_is_integer (hr.mono (by decide)) rfl (pxa_cons (px_name 3) pxa_nil)) (px_one (px_chain le_ok le_s le_ok le_s (px_callB (maxL_ok rfl) maxL_s rfl T.n_max (by decide +kernel) (pxa_cons (px_lst (pxa_cons (px_name 2) (pxa_cons px_int pxa_nil))) pxa_nil)) (px_name 3) (px_gint rfl T.m_MAX_COUNT)))))))))))
end
end Pu
namespace Pu
open PySem PySem.Spec PyProof.Rows L2 Lk Evl StX

open My
def holeB (ds : List D) : Bool := decide (1 ≤ ds.length) && (decide (ds.length ≤ 4) && ds.all runD)
abbrev hole (ds : List D) : D := .obj "Hole" ["own_runs"] [.tup ds]
def ofB : D → Bool
  | .tup ds => holeB ds
  | _ => false
def sp_Hole___init__ : PSp := fun cells q eq => ∃ ds, cells = [.ow (.obj "Hole" [] []), .fz (.tup ds)] ∧ big (.tup ds) ≤ 1000000 ∧ (holeB ds = true → q .non [.ow (hole ds), .fz (.tup ds)]) ∧ (holeB ds = false → eq "InvalidHole" [] [] cells)
theorem len_Hole___init__ : Len 2 sp_Hole___init__ := fun cells q eq ⟨d, h, _⟩ => by rw [h]; rfl
def bigO (d : D) : Prop := big d ≤ 1000000 ∨ ∃ ns vs, d = .obj "Hole" ns vs
def sp_Hole_of : PSp := fun cells q eq => ∃ d, cells = [.fz (.cls "Hole"), .fz d] ∧ bigO d ∧ (∀ ds, d = .tup ds → holeB ds = true → q (hole ds) cells) ∧ (ofB d = false → eq "InvalidHole" [] [] cells)
theorem len_Hole_of : Len 2 sp_Hole_of := fun cells q eq ⟨d, h, _⟩ => by rw [h]; rfl
def sp_Hole___eq__ : PSp := fun cells q _ => ∃ ds e, cells = [.fz (hole ds), .fz e] ∧ ((∃ es p r, e = hole es ∧ (D.tup ds).py = some p ∧ (D.tup es).py = some r ∧ SeqAt.shaped p = true ∧ SeqAt.shaped r = true ∧ q (.bl (PyData.eqv p r)) cells) ∨ (e.tyn.isSome = true ∧ q (.bl false) cells))
theorem len_Hole___eq__ : Len 2 sp_Hole___eq__ := fun cells q eq ⟨d, e, h, _⟩ => by rw [h]; rfl
def sp_Hole___len__ : PSp := fun cells q _ => ∃ ds, cells = [.fz (hole ds)] ∧ q (.int ds.length) cells
theorem len_Hole___len__ : Len 1 sp_Hole___len__ := fun cells q eq ⟨d, h, _⟩ => by rw [h]; rfl
def holeS (n : Nat) : Str := Str.empty ++ Str.ofString "hole of " ++ toString (n : Int) ++ Str.ofString " runs"
def sp_Hole___str__ : PSp := fun cells q _ => ∃ ds, cells = [.fz (hole ds)] ∧ ds.length ≤ 4 ∧ q (.str (holeS ds.length)) cells
theorem len_Hole___str__ : Len 1 sp_Hole___str__ := fun cells q eq ⟨d, h, _⟩ => by rw [h]; rfl
def w_Hole___init___1 (G : Gx) : WS := (wOfld "Hole" "own_runs" 0 (wName 1))
/-- reading of Hole.__init__: slots 0:self 1:runs 2:run, owned self -/
def w_Hole___init__ (G : Gx) : WS := (wSeq (wIfS (wOrT (wNotT (wB (wChain dLe dLe (wC (.int 1)) (wCall (d1 dLen) (wCons (wName 1) wNil)) (wC (.int 4))))) (wNotT (wTru (wCall (d1 dAll) (wCons (wV (nLc [2] (wItems (wName 1)) (wgName 2) wYes (wCallP sp_is_run (wCons (wName 2) wNil)))) wNil)))))
  (wRaise "InvalidHole")
  wNext) (w_Hole___init___1 G))
def w_Hole_of_1 (G : Gx) : WS := (wRet (wMakeL "Hole" 0 sp_Hole___init__ (wName 1)))
/-- reading of Hole.of: slots 0:cls 1:runs, owned - -/
def w_Hole_of (G : Gx) : WS := (wSeq (wIfS (wNotT (wTru (wCall (d2 (dIsiB "Hole" .tup)) (wCons (wName 1) (wCons (wC (.ty "tuple")) wNil)))))
  (wRaise "InvalidHole")
  wNext) (w_Hole_of_1 G))
/-- reading of Hole.__eq__: slots 0:self 1:other, owned - -/
def w_Hole___eq__ (G : Gx) : WS := (wRet (wAndV (wCall (d2 (dIsiC "Hole")) (wCons (wName 1) (wCons (wC (.cls "Hole")) wNil))) (wOp dEq (wFld "Hole" ["own_runs"] 0 (wName 0)) (wFld "Hole" ["own_runs"] 0 (wName 1)))))
/-- reading of Hole.__len__: slots 0:self, owned - -/
def w_Hole___len__ (G : Gx) : WS := (wRet (wCall (d1 dLen) (wCons (wFld "Hole" ["own_runs"] 0 (wName 0)) wNil)))
/-- reading of Hole.__str__: slots 0:self, owned - -/
def w_Hole___str__ (G : Gx) : WS := (wRet (wFstr [(wC (.str (Str.ofString "hole of "))), (wFmt (wCall (d1 dLen) (wCons (wFld "Hole" ["own_runs"] 0 (wName 0)) wNil))), (wC (.str (Str.ofString " runs")))]))
theorem pure_Hole___init__ (G : Gx) : PureX false 2 3 sp_Hole___init__ (w_Hole___init__ G) := by
  intro cells q eq hl hp
  obtain ⟨ds, rfl, hb, k1, k2⟩ := hp
  obtain ⟨h1, h2⟩ := big_tup hb
  refine ite2 (fun g1 => ite2 (fun g4 => ?_) (fun g4 => ?_)) (fun g1 => ?_)
  · have e : holeB ds = false := by
      unfold holeB
      have := of_decide_eq_false (show decide ((ds.length : Int) ≤ 4) = false by simpa using g4)
      rw [show decide (ds.length ≤ 4) = false from decide_eq_false (by omega), Bool.false_and, Bool.and_false]
    exact k2 e
  · have l1 := of_decide_eq_true g1
    have l4 := of_decide_eq_true (show decide ((ds.length : Int) ≤ 4) = true by simpa using g4)
    have e : holeB ds = ds.all runD := by
      unfold holeB
      rw [show decide (1 ≤ ds.length) = true from decide_eq_true (by omega), show decide (ds.length ≤ 4) = true from decide_eq_true (by omega), Bool.true_and, Bool.true_and]
    rw [e] at k1 k2
    refine lc_f (fun d => .bl (runD d)) (size_le h1) (fun d K1 K2 hd k => ⟨nd0, d, rfl, h2 d hd, k⟩) (all_m ?_)
    refine ite2 (fun g => k2 (by simpa using g)) (fun g => ?_)
    exact ⟨rfl, (by decide), rfl, rfl, k1 (by simpa using g)⟩
  · have e : holeB ds = false := by
      unfold holeB
      have := of_decide_eq_false g1
      rw [show decide (1 ≤ ds.length) = false from decide_eq_false (by omega), Bool.false_and]
    exact k2 e
theorem pure_Hole_of (G : Gx) : PureX false 2 2 sp_Hole_of (w_Hole_of G) := by
  intro cells q eq hl hp
  obtain ⟨d, rfl, hb, k1, k2⟩ := hp
  rcases hb with hb | ⟨ns, vs, rfl⟩
  · cases d <;> first | (exact absurd (show 2000000 ≤ 1000000 from hb) (by decide)) | (exact ⟨rfl, k2 rfl⟩) | skip
    rename_i ds
    refine ⟨rfl, rfl, ?_⟩
    exact ⟨size_le (big_tup hb).1, ds, rfl, hb, fun h => ⟨rfl, rfl, rfl, k1 ds rfl h⟩, fun h => k2 h⟩
  · exact ⟨rfl, rfl, k2 rfl⟩
theorem pure_Hole___eq__ (G : Gx) : Pure false 2 2 sp_Hole___eq__ (w_Hole___eq__ G) := by
  intro cells q eq hl hp
  obtain ⟨ds, e, rfl, h⟩ := hp
  rcases h with ⟨es, p, r, rfl, e1, e2, s1, s2, k⟩ | ⟨ht, k⟩
  · exact ⟨rfl, rfl, rfl, rfl, rfl, rfl, eqD_of e1 e2 s1 s2 ⟨rfl, k⟩⟩
  · cases e <;> first | (cases ht; done) | exact ⟨rfl, rfl, k⟩
theorem pure_Hole___len__ (G : Gx) : Pure false 1 1 sp_Hole___len__ (w_Hole___len__ G) := by
  intro cells q eq hl hp
  obtain ⟨ds, rfl, k⟩ := hp
  exact ⟨rfl, rfl, rfl, k⟩
theorem pure_Hole___str__ (G : Gx) : Pure false 1 1 sp_Hole___str__ (w_Hole___str__ G) := by
  intro cells q eq hl hp
  obtain ⟨ds, rfl, h4, k⟩ := hp
  have hc : ds.length = 0 ∨ ds.length = 1 ∨ ds.length = 2 ∨ ds.length = 3 ∨ ds.length = 4 := by omega
  have e1 : (Str.empty ++ Str.ofString "hole of ").length ≤ sizeLine := by decide +kernel
  have e2 : (Str.empty ++ Str.ofString "hole of " ++ toString (ds.length : Int)).length ≤ sizeLine := by rcases hc with h | h | h | h | h <;> rw [h] <;> decide +kernel
  have e3 : (holeS ds.length).length ≤ sizeLine := by rcases hc with h | h | h | h | h <;> rw [h] <;> decide +kernel
  have e4 : (ds.length : Int).natAbs.log2 < 1920 := by rcases hc with h | h | h | h | h <;> rw [h] <;> decide +kernel
  exact ⟨e1, rfl, rfl, e4, e2, e3, rfl, k⟩
section
variable {G : Gx} {P : Program} {wd : World} {mg : Str → Option Value} {base : Heap}
theorem ok_Hole___init__ (T : Tx G wd mg) : PMk G P wd mg base (L2.CX P wd) 4 "Hole" true 2 sp_Hole___init__ := by
  have G_is_run := ok_is_run (P := P) (wd := wd) (base := base) T
  refine ⟨⟨T.a_Hole___init__, T.mk_Hole, fnXs T.F_Hole___init__ sc_Hole___init__ (by decide) (fun _ _ _ _ _ _ _ => rfl) (fun _ _ _ _ _ _ _ _ _ => rfl) (w := w_Hole___init__ G) (fun cdv A outer s H E hr => ?_) (pure_Hole___init__ G)⟩, len_Hole___init__, fun _ => rfl⟩
  exact (py_cons (py_if (pxw (pxw_or (pxt_not (pxt_chain le_ok le_s le_ok le_s px_int (px_callB len_anyK len_s rfl T.n_len (by decide +kernel) (pxa_cons (px_name 1) pxa_nil)) (px_gint rfl T.m_MAX_RUNS))) (pxw_or1 (pxt_not (pxt_val (px_callB (all_ok rfl) all_s rfl T.n_all (by decide +kernel) (pxa_cons (pxn (pxn_lc (own := [("run", 2)]) (by decide) rfl sc_Hole___init__.nd (pxi_any (px_name 1)) (blkOk_by (N := nm_Hole___init__) (sc := defScope s_Hole___init__) (by decide +kernel)) (fun _ _ _ _ _ => (pxg_name 2 sc_Hole___init__.nd rfl (Or.inl rfl))) (fun _ _ _ _ _ => pxts_nil) (fun _ _ _ _ _ => (px_callPk G_is_run (hr.mono (by decide)) rfl (pxa_cons (px_name 2) pxa_nil))))) pxa_nil)))))))
  (py_one (py_raise "InvalidHole" rfl (takes_of rfl rfl rfl rfl) T.x_InvalidHole T.m_InvalidHole T.k_InvalidHole (raises_own T.b_InvalidHole T.t_InvalidHole) rfl))
  py_nil)
  (py_one (py_ofld (C := "Hole") (f := "own_runs") 0 T.ci_Hole.cl T.na_Hole_own_runs (pv 0) (px_name 1))))
theorem ok_Hole_of (T : Tx G wd mg) : PCm G P wd mg base (L2.CX P wd) 6 "Hole" "of" 2 sp_Hole_of := by
  have M_Hole___init__ := ok_Hole___init__ (P := P) (wd := wd) (base := base) T
  obtain ⟨mc, p, c1, c2⟩ := T.cm_Hole_of
  refine ⟨⟨mc, p, T.a_Hole_of, c1, c2, fn_raw (fnXk T.F_Hole_of sc_Hole_of (by decide) (w := w_Hole_of G) (fun cdv A outer s H E hr => ?_) (pure_Hole_of G)) T.b_Hole_of⟩, len_Hole_of⟩
  exact (py_cons (py_if (pxt_not (pxt_val (px_callB isiK (isiB_s T.ci_Hole .tup) rfl T.n_isinstance (by decide +kernel) (pxa_cons (px_name 1) (pxa_cons (px_ty rfl T.n_tuple (by decide +kernel)) pxa_nil)))))
  (py_one (py_raise "InvalidHole" rfl (takes_of rfl rfl rfl rfl) T.x_InvalidHole T.m_InvalidHole T.k_InvalidHole (raises_own T.b_InvalidHole T.t_InvalidHole) rfl))
  py_nil)
  (py_one (py_ret (px_makeL (C := "Hole") 0 M_Hole___init__ (fun σ => passAt (takes_of rfl rfl rfl rfl) σ) (hr.mono (by decide)) (px_name 1)))))
theorem ok_Hole_runs (T : Tx G wd mg) : PProp G P wd mg base 1 "Hole" "runs" "own_runs" := by
  obtain ⟨p, h⟩ := T.pr_Hole_runs
  exact ⟨p, T.a_Hole_runs, T.d_Hole_runs, _, h, fnGet T.F_Hole_runs sc_Hole_runs rfl ⟨_, _, _, rfl⟩ T.ci_Hole.cl T.na_Hole_own_runs, T.b_Hole_runs⟩
theorem ok_Hole___eq__ (T : Tx G wd mg) : PMt G P wd mg base CX0 1 "Hole" "__eq__" 2 sp_Hole___eq__ := by
  refine ⟨⟨T.a_Hole___eq__, T.d_Hole___eq__, ps_Hole___eq__, fnPk T.F_Hole___eq__ sc_Hole___eq__ (by decide) (w := w_Hole___eq__ G) (fun cdv A outer s H E hr => ?_) (pure_Hole___eq__ G), T.at_Hole___eq__, T.fn_Hole___eq__, T.F_Hole___eq__.kp, T.b_Hole___eq__⟩, len_Hole___eq__⟩
  exact (py_one (py_ret (px_and (px_callB isiK (isiC_s T.ci_Hole) rfl T.n_isinstance (by decide +kernel) (pxa_cons (px_name 1) (pxa_cons (px_gcls rfl T.m_Hole) pxa_nil))) (px_one (px_cmp (eq_ok hr.units) eq_s (px_fld (N := ["own_runs"]) (i := 0) T.ci_Hole.cl T.na_Hole_own_runs rfl rfl (px_name 0)) (px_fld (N := ["own_runs"]) (i := 0) T.ci_Hole.cl T.na_Hole_own_runs rfl rfl (px_name 1)) (nomark _))))))
theorem ok_Hole___len__ (T : Tx G wd mg) : PMt G P wd mg base CX0 1 "Hole" "__len__" 1 sp_Hole___len__ := by
  refine ⟨⟨T.a_Hole___len__, T.d_Hole___len__, ps_Hole___len__, fnPk T.F_Hole___len__ sc_Hole___len__ (by decide) (w := w_Hole___len__ G) (fun cdv A outer s H E hr => ?_) (pure_Hole___len__ G), T.at_Hole___len__, T.fn_Hole___len__, T.F_Hole___len__.kp, T.b_Hole___len__⟩, len_Hole___len__⟩
  exact (py_one (py_ret (px_callB len_anyK len_s rfl T.n_len (by decide +kernel) (pxa_cons (px_fld (N := ["own_runs"]) (i := 0) T.ci_Hole.cl T.na_Hole_own_runs rfl rfl (px_name 0)) pxa_nil))))
theorem ok_Hole___str__ (T : Tx G wd mg) : PMt G P wd mg base CX0 1 "Hole" "__str__" 1 sp_Hole___str__ := by
  refine ⟨⟨T.a_Hole___str__, T.d_Hole___str__, ps_Hole___str__, fnPk T.F_Hole___str__ sc_Hole___str__ (by decide) (w := w_Hole___str__ G) (fun cdv A outer s H E hr => ?_) (pure_Hole___str__ G), T.at_Hole___str__, T.fn_Hole___str__, T.F_Hole___str__.kp, T.b_Hole___str__⟩, len_Hole___str__⟩
  exact (py_one (py_ret (px_fstr (.cons px_str (.cons (px_fmt (px_callB len_anyK len_s rfl T.n_len (by decide +kernel) (pxa_cons (px_fld (N := ["own_runs"]) (i := 0) T.ci_Hole.cl T.na_Hole_own_runs rfl rfl (px_name 0)) pxa_nil))) (.cons px_str .nil))))))
end
end Pu
namespace Pu
open PySem PySem.Spec PyProof.Rows L2 Lk Evl StX

open My
def sp__law_mixed : PSp := fun cells q _ => ∃ d e ds, cells = [.ow d, .fz e] ∧ isDice d ∧ e.items = some ds ∧ ds.length ≤ 1000 ∧ (∀ z, e = .str z → z.length ≤ sizeLine) ∧ ∀ d' ys, isDice d' → ys.Perm ds → q (.lst ys) [.ow d', .fz e]
theorem len__law_mixed : Len 2 sp__law_mixed := fun cells q eq ⟨d, e, ds, h, _⟩ => by rw [h]; rfl
def w__law_mixed_1 (G : Gx) : WS := (wRet (wV (nLc [3] (wRng1 (wCons (wCall (d1 dLen) (wCons (wName 1) wNil)) wNil)) (wgName 3) wYes (wLm 2 mPopAt (wCallP sp__law_roll (wCons (wName 0) (wCons (wCall (d1 dLen) (wCons (wName 2) wNil)) wNil)))))))
/-- reading of _law_mixed: slots 0:dice 1:items 2:left 3:turn, owned dice left -/
def w__law_mixed (G : Gx) : WS := (wSeq (wSetN 2 (nCall (l1 lToLst) (wCons (wName 1) wNil))) (w__law_mixed_1 G))
theorem permD : ∀ (l : List D) (n : Nat) (z : D), l[n]? = some z → (z :: l.eraseIdx n).Perm l
  | [], n, z, h => by simp at h
  | x :: l, 0, z, h => by simp at h; subst h; simp
  | x :: l, n + 1, z, h => by
    have := permD l n z (by simpa using h)
    rw [List.eraseIdx_cons_succ]
    exact (List.Perm.swap x z _).trans (.cons x this)
theorem seqIndex_nat {n len : Nat} (h : n < len) : seqIndex? (n : Int) len = some n := by
  unfold seqIndex?
  simp; omega
theorem mixed_lc {e d : D} {ds : List D} {q' : D → Env → Prop} {n : Nat} (hn : n = ds.length) (hd : isDice d) (hz : ds.length ≤ 1000) (k : ∀ d' ys, isDice d' → ys.Perm ds → q' (.lst ys) [.ow d', .fz e, .ow (.lst []), .un]) :
    LcOk [3] (wgName 3) wYes (wLm 2 mPopAt (wCallP sp__law_roll (wCons (wName 0) (wCons (wCall (d1 dLen) (wCons (wName 2) wNil)) wNil)))) q' ((List.range (n : Int).toNat).map fun i => D.int (0 + (i : Nat))) [.ow d, .fz e, .ow (.lst ds), .un] := by
  subst hn
  refine ⟨rfl, fun i ys ρ' => ∃ d left, isDice d ∧ ρ' = [.ow d, .fz e, .ow (.lst left), .un] ∧ (ys ++ left).Perm ds ∧ (i ≤ ds.length → ys.length = i), ⟨d, ds, hd, rfl, .refl _, fun _ => rfl⟩, ?_, ?_, ?_⟩
  · rintro i x ys ρ' hx ⟨d, left, hd, rfl, pm, yl⟩ _
    obtain ⟨hi, _⟩ := idx_rng hx
    have hi : i < ds.length := by omega
    have ll : left.length = ds.length - i := by have := pm.length_eq; rw [List.length_append, yl (by omega)] at this; omega
    refine ⟨nd1, d, (left.length : Int), rfl, hd, by omega, by omega, fun d' r hd' r0 r1 => ?_⟩
    obtain ⟨n, rfl⟩ : ∃ n : Nat, r = n := ⟨r.toNat, by omega⟩
    have hn : n < left.length := by omega
    refine ⟨by omega, by omega, n, left[n], seqIndex_nat hn, List.getElem?_eq_getElem hn, d', left.eraseIdx n, hd', rfl, ?_, fun _ => ?_⟩
    · have p1 := permD left n _ (List.getElem?_eq_getElem hn)
      rw [List.append_assoc]
      exact (p1.append_left ys).trans pm
    · rw [List.length_append, yl (by omega)]; rfl
  · rw [len_rng]; exact Nat.le_trans (by omega) (Nat.le_of_ble_eq_true (rfl : Nat.ble 1000 sizeLine = true))
  · rintro ys ρ' ⟨d, left, hd, rfl, pm, yl⟩ hyl
    rw [len_rng] at yl hyl
    have l1 := yl (by omega)
    have l2 := pm.length_eq
    rw [List.length_append] at l2
    have e0 : left = [] := List.length_eq_zero_iff.mp (by omega)
    subst e0
    rw [List.append_nil] at pm
    exact k d ys hd pm
theorem pure__law_mixed (G : Gx) : Pure false 2 4 sp__law_mixed (w__law_mixed G) := by
  intro cells q eq hl hp
  obtain ⟨d, e, ds, rfl, hd, he, hz, hs, k⟩ := hp
  cases e <;> first | (cases he; done) | skip
  · cases he
    rename_i z
    have hz' : z.length ≤ 1000 := by rw [List.length_map] at hz; exact hz
    exact ⟨hs _ rfl, np rfl, ltOk, hs _ rfl, ⟨by omega, by omega⟩, mixed_lc (by rw [List.length_map]; rfl) hd hz fun d' ys hd' pm => ⟨rfl, k d' ys hd' pm⟩⟩
  · cases he
    exact ⟨np rfl, ltOk, ⟨by omega, by omega⟩, mixed_lc rfl hd hz fun d' ys hd' pm => ⟨rfl, k d' ys hd' pm⟩⟩
  · cases he
    exact ⟨np rfl, ltOk, ⟨by omega, by omega⟩, mixed_lc rfl hd hz fun d' ys hd' pm => ⟨rfl, k d' ys hd' pm⟩⟩
section
variable {G : Gx} {P : Program} {wd : World} {mg : Str → Option Value} {base : Heap}
theorem ok__law_mixed (T : Tx G wd mg) : PFnK G P wd mg base CX0 2 "_law_mixed" 2 false sp__law_mixed := by
  have G__law_roll := ok__law_roll (P := P) (wd := wd) (base := base) T
  refine ⟨⟨T.a__law_mixed, T.d__law_mixed, ps__law_mixed, fnPk T.F__law_mixed sc__law_mixed (by decide) (w := w__law_mixed G) (fun cdv A outer s H E hr => ?_) (pure__law_mixed G), T.m__law_mixed, T.F__law_mixed.kp, T.b__law_mixed⟩, len__law_mixed⟩
  exact (py_cons (py_setN 2 sc__law_mixed.nd rfl (Or.inr rfl) (pxn_callT (toLst_ok rfl) toLst_l rfl T.n_list (by decide +kernel) (pxa_cons (px_name 1) pxa_nil)))
  (py_one (py_ret (pxn (pxn_lc (own := [("turn", 3)]) (by decide) rfl sc__law_mixed.nd (pxi_range1 rfl T.n_range (pxa_cons (px_callB len_anyK len_s rfl T.n_len (by decide +kernel) (pxa_cons (px_name 1) pxa_nil)) pxa_nil)) (blkOk_by (N := nm__law_mixed) (sc := defScope s__law_mixed) (by decide +kernel)) (fun _ _ _ _ _ => (pxg_name 3 sc__law_mixed.nd rfl (Or.inl rfl))) (fun _ _ _ _ _ => pxts_nil) (fun _ _ _ _ _ => (px_lm 2 PySem.F.slot_list_pop PySem.F.type_list_pop popAt_ok popAt_m (pv 2) (px_callPk G__law_roll (hr.mono (by decide)) rfl (pxa_cons (px_name 0) (pxa_cons (px_callB len_anyK len_s rfl T.n_len (by decide +kernel) (pxa_cons (px_name 2) pxa_nil)) pxa_nil))))))))))
end
end Pu
namespace Pu
open PySem PySem.Spec PyProof.Rows L2 Lk Evl StX

open My
/-- signs, ascending, one at least -/
structure GSigns (xs : List Str) : Prop where
  sg : ∀ x ∈ xs, signS x = true
  asc : ascS xs = true
  ne : xs ≠ []
  few : xs.length ≤ 15
def hiOk (i : Int) : D → Prop
  | .non => True
  | .int j => i ≤ j ∧ 1 ≤ j ∧ j ≤ 3
  | _ => False
/-- a drawn run -/
def GRun (r : D) : Prop := ∃ xs i h, r = .tup [.tup (xs.map D.str), .int i, h] ∧ GSigns xs ∧ 0 ≤ i ∧ i ≤ 3 ∧ hiOk i h
def sp__law_signs : PSp := fun cells q _ => ∃ d u, cells = [.ow d, .fz (.int u)] ∧ isDice d ∧ 1 ≤ u ∧ u ≤ 15 ∧ ∀ d' xs, isDice d' → GSigns xs → q (.tup (xs.map D.str)) [.ow d', .fz (.int u)]
theorem len__law_signs : Len 2 sp__law_signs := fun cells q eq ⟨d, u, h, _⟩ => by rw [h]; rfl
def sp__law_run : PSp := fun cells q _ => ∃ d xs, cells = [.ow d, .fz (.tup (xs.map D.str))] ∧ isDice d ∧ GSigns xs ∧ ∀ d' r, isDice d' → GRun r → q r [.ow d', .fz (.tup (xs.map D.str))]
theorem len__law_run : Len 2 sp__law_run := fun cells q eq ⟨d, u, h, _⟩ => by rw [h]; rfl
def GHole (rs : List D) : Prop := (∀ r ∈ rs, GRun r) ∧ 1 ≤ rs.length ∧ rs.length ≤ 4
def sp__law_hole : PSp := fun cells q _ => ∃ d xs, cells = [.ow d, .fz (.tup (xs.map D.str))] ∧ isDice d ∧ GSigns xs ∧ ∀ d' rs, isDice d' → GHole rs → q (.tup rs) [.ow d', .fz (.tup (xs.map D.str))]
theorem len__law_hole : Len 2 sp__law_hole := fun cells q eq ⟨d, u, h, _⟩ => by rw [h]; rfl
def w__law_signs_1 (G : Gx) : WS := (wRet (wCall (d1 dToTup) (wCons (wCall (d1 dSorted) (wCons (wCut (wCallP sp__law_mixed (wCons (wName 0) (wCons (wCall (d1 dToLst) (wCons (wName 2) wNil)) wNil))) wNo (wSome (wName 3))) wNil)) wNil)))
/-- reading of _law_signs: slots 0:dice 1:upto 2:pool 3:size, owned dice -/
def w__law_signs (G : Gx) : WS := (wSeq (wPar 2 3 (wCons (wIf (wAndT (wB (wOp dLt (wName 1) (wC (.int 6)))) (wB (wOp dGt (wCallP sp__law_roll (wCons (wName 0) (wCons (wC (.int 4)) wNil))) (wC (.int 0))))) (wC (.str (Str.ofString "$:_ab"))) (wCallP sp__law_all_signs wNil)) (wCons (wOp dAdd (wC (.int 1)) (wCallP sp__law_roll (wCons (wName 0) (wCons (wName 1) wNil)))) wNil))) (w__law_signs_1 G))
def w__law_run_3 (G : Gx) : WS := (wRet (wTup (wCons (wCall (d1 dToTup) (wCons (wCall (d1 dSorted) (wCons (wName 2) wNil)) wNil)) (wCons (wName 4) (wCons (wName 5) wNil)))))
def w__law_run_2 (G : Gx) : WS := (wSeq (wAsg [4, 5] (wCallP sp__law_one_of (wCons (wName 0) (wCons (wName 3) wNil))) (wgTup 2 (wgCons (wgName 4) (wgCons (wgName 5) wgNil)))) (w__law_run_3 G))
def w__law_run_1 (G : Gx) : WS := (wSeq (wAsg [3] (wLst (wCons (wTup (wCons (wC (.int 0)) (wCons (wC .non) wNil))) (wCons (wTup (wCons (wC (.int 0)) (wCons (wC .non) wNil))) (wCons (wTup (wCons (wC (.int 1)) (wCons (wC (.int 1)) wNil))) (wCons (wTup (wCons (wC (.int 0)) (wCons (wC (.int 1)) wNil))) (wCons (wTup (wCons (wC (.int 1)) (wCons (wC (.int 2)) wNil))) (wCons (wTup (wCons (wC (.int 1)) (wCons (wC .non) wNil))) (wCons (wTup (wCons (wC (.int 2)) (wCons (wC (.int 3)) wNil))) (wCons (wTup (wCons (wC (.int 0)) (wCons (wC (.int 3)) wNil))) (wCons (wTup (wCons (wC (.int 3)) (wCons (wC .non) wNil))) wNil)))))))))) (wgName 3)) (w__law_run_2 G))
/-- reading of _law_run: slots 0:dice 1:signs 2:some 3:bounds 4:low 5:high, owned dice -/
def w__law_run (G : Gx) : WS := (wSeq (wAsg [2] (wCut (wCallP sp__law_mixed (wCons (wName 0) (wCons (wCall (d1 dToLst) (wCons (wName 1) wNil)) wNil))) wNo (wSome (wOp dAdd (wC (.int 1)) (wCallP sp__law_roll (wCons (wName 0) (wCons (wCall (d1 dLen) (wCons (wName 1) wNil)) wNil)))))) (wgName 2)) (w__law_run_1 G))
/-- reading of _law_hole: slots 0:dice 1:signs 2:turn, owned dice -/
def w__law_hole (G : Gx) : WS := (wRet (wCall (d1 dToTup) (wCons (wV (nLc [2] (wRng1 (wCons (wCallP sp__law_one_of (wCons (wName 0) (wCons (wLst (wCons (wC (.int 1)) (wCons (wC (.int 1)) (wCons (wC (.int 1)) (wCons (wC (.int 2)) (wCons (wC (.int 2)) (wCons (wC (.int 3)) (wCons (wC (.int 4)) wNil)))))))) wNil))) wNil)) (wgName 2) wYes (wCallP sp__law_run (wCons (wName 0) (wCons (wName 1) wNil))))) wNil)))
theorem perm_strs {ys : List D} {xs : List Str} (h : ys.Perm (xs.map D.str)) : ∃ zs : List Str, ys = zs.map D.str ∧ zs.Perm xs := by
  refine ⟨ys.map asStr, ?_, by have := h.map asStr; rw [map_as] at this; exact this⟩
  rw [List.map_map]
  have : ∀ d ∈ ys, (D.str ∘ asStr) d = d := fun d hd => by
    obtain ⟨x, _, rfl⟩ := List.mem_map.mp (h.mem_iff.mp hd)
    rfl
  rw [List.map_congr_left this, List.map_id']
theorem cut_to {α : Type} (xs : List α) (n : Nat) : cutA xs none (some (n : Int)) = xs.take n := by
  have h : ¬ ((n : Int) < 0) := by omega
  unfold cutA HT.sIx
  simp only [h, if_false, List.drop_zero, Nat.sub_zero, Int.toNat_natCast]
  by_cases hn : n ≤ xs.length
  · rw [Nat.min_eq_left hn]
  · rw [Nat.min_eq_right (by omega), List.take_of_length_le (Nat.le_refl _), List.take_of_length_le (by omega)]
theorem sign_sgn {c : Nat} (h : c ∈ sigs) : signS (sgn c) = true := by
  show (decide ((sgn c).length = 1) && [c].all fun c => decide (c ∈ sigs)) = true
  simp [h]
  rfl
theorem sgns_map (cs : List Nat) : (cs.map fun c => D.str (sgn c)) = (cs.map sgn).map D.str := by rw [List.map_map]; rfl
/-- some signs sorted -/
theorem sort_take {zs cs : List Str} {n : Nat} (pm : zs.Perm cs) (sg : ∀ x ∈ cs, signS x = true) (nd : cs.Nodup) (h1 : 1 ≤ n) (c1 : cs ≠ []) (c15 : cs.length ≤ 15) {ys : List Str} (p : ys.Perm (zs.take n)) (s : sortedS ys = true) : GSigns ys := by
  have nz : (zs.take n).Nodup := List.Nodup.sublist (List.take_sublist _ _) (pm.nodup_iff.mpr nd)
  have hl := pm.length_eq
  refine ⟨fun x hx => sg x (pm.mem_iff.mp (List.mem_of_mem_take (p.mem_iff.mp hx))), asc_sorted (p.nodup_iff.mpr nz) s, fun z => ?_, ?_⟩
  · have e1 := p.length_eq
    rw [z, List.length_take] at e1
    have e2 : cs.length ≠ 0 := fun z => c1 (List.length_eq_zero_iff.mp z)
    rw [List.length_nil] at e1
    omega
  · rw [p.length_eq, List.length_take]; omega
theorem pure__law_signs (G : Gx) : Pure false 2 4 sp__law_signs (w__law_signs G) := by
  intro cells q eq hl hp
  obtain ⟨d, u, rfl, hd, u1, u2, k⟩ := hp
  have tail : ∀ (d1 : D) (P : Str) (n : Nat), isDice d1 → 1 ≤ n → (∀ c ∈ tl P, c ∈ sigs) → ((tl P).map sgn).Nodup → P.length ≤ 15 → tl P ≠ [] →
      w__law_signs_1 G (endsP false [.ow d, .fz (.int u)] q fun _ _ _ _ => False) [.ow d1, .fz (.int u), .fz (.str P), .fz (.int (n : Nat))] := by
    intro d1 P n hd1 hn hs nd h15 hne
    have l15 : (tl P).length ≤ 15 := by rw [tl_len]; exact h15
    refine ⟨size_le (by omega), nd1, d1, _, _, rfl, hd1, rfl, by rw [List.length_map]; exact Nat.le_trans l15 (by decide), fun z h => (nomatch h), fun d2 ys hd2 pm => ?_⟩
    rw [sgns_map] at pm
    obtain ⟨zs, rfl, pz⟩ := perm_strs pm
    clear pm
    show dSorted (.lst (cutA (zs.map D.str) none (some (n : Int)))) _
    rw [cut_to, ← List.map_take]
    refine ⟨?_⟩
    have h64 : (zs.take n).length < 64 := by
      have e1 := pz.length_eq
      rw [List.length_map] at e1
      have e2 : P.cps.toList.length = (tl P).length := rfl
      rw [List.length_take]; omega
    simp only [allS, optK]
    refine ⟨h64, fun ys p s => ⟨rfl, k d2 ys hd2 (sort_take pz ?_ nd hn ?_ ?_ p s)⟩⟩
    · intro x hx
      obtain ⟨c, hc, rfl⟩ := List.mem_map.mp hx
      exact sign_sgn (hs c hc)
    · intro z; exact hne (List.map_eq_nil_iff.mp z)
    · rw [List.length_map]; exact l15
  have two : ∀ (d1 : D) (P : Str), isDice d1 → (∀ c ∈ tl P, c ∈ sigs) → ((tl P).map sgn).Nodup → P.length ≤ 15 → tl P ≠ [] → ∀ r d2, isDice d2 → 0 ≤ r → r < u →
      w__law_signs_1 G (endsP false [.ow d, .fz (.int u)] q fun _ _ _ _ => False) [.ow d2, .fz (.int u), .fz (.str P), .fz (.int (1 + r))] := by
    intro d1 P hd1 hs nd h15 hne r d2 hd2 r0 r1
    obtain ⟨n, rfl⟩ : ∃ n : Nat, r = n := ⟨r.toNat, by omega⟩
    have := tail d2 P (1 + n) hd2 (by omega) hs nd h15 hne
    rw [Int.natCast_add] at this
    exact this
  have A := two d (Str.ofString "$:_ab") hd (by decide +kernel) (by decide +kernel) (by decide +kernel) (by decide +kernel)
  have B := two d (Str.ofString "#$0123:_abcdefg") hd (by decide +kernel) (by decide +kernel) (by decide +kernel) (by decide +kernel)
  have b2 : u < 2 ^ 200 := by have : (15 : Int) < 2 ^ 200 := by decide
                              omega
  refine ite2 (fun h6 => ⟨nd1, d, 4, rfl, hd, by decide, by decide, fun d1 r hd1 r0 r1 => ite2 (fun h => ?_) (fun h => ?_)⟩) (fun h6 => ?_)
  · exact ⟨nd1, d1, u, rfl, hd1, by omega, b2, fun d2 r hd2 r0 r1 => ⟨np rfl, np rfl, A r d2 hd2 r0 r1⟩⟩
  · exact ⟨nd0, rfl, nd1, d1, u, rfl, hd1, by omega, b2, fun d2 r hd2 r0 r1 => ⟨np rfl, np rfl, B r d2 hd2 r0 r1⟩⟩
  · exact ⟨nd0, rfl, nd1, d, u, rfl, hd, by omega, b2, fun d2 r hd2 r0 r1 => ⟨np rfl, np rfl, B r d2 hd2 r0 r1⟩⟩
theorem GSigns.nodup {xs : List Str} (g : GSigns xs) : xs.Nodup := by
  have : ∀ {xs : List Str}, ascS xs = true → xs.Nodup := by
    intro xs
    induction xs with
    | nil => intro _; exact List.nodup_nil
    | cons x xs ih =>
      intro h
      obtain ⟨a, b⟩ := asc_cons.mp h
      exact List.nodup_cons.mpr ⟨fun z => lt_irr (a x z), ih b⟩
  exact this g.asc
def boundsL : List D := [.tup [.int 0, .non], .tup [.int 0, .non], .tup [.int 1, .int 1], .tup [.int 0, .int 1], .tup [.int 1, .int 2], .tup [.int 1, .non], .tup [.int 2, .int 3], .tup [.int 0, .int 3], .tup [.int 3, .non]]
theorem bounds_mem {x : D} (h : x ∈ boundsL) : ∃ i h, x = .tup [.int i, h] ∧ 0 ≤ i ∧ i ≤ 3 ∧ hiOk i h := by
  unfold boundsL at h
  simp only [List.mem_cons, List.not_mem_nil, or_false] at h
  rcases h with rfl | rfl | rfl | rfl | rfl | rfl | rfl | rfl | rfl <;> exact ⟨_, _, rfl, by decide, by decide, by simp [hiOk]⟩
theorem pure__law_run (G : Gx) : Pure false 2 6 sp__law_run (w__law_run G) := by
  intro cells q eq hl hp
  obtain ⟨d, xs, rfl, hd, g, k⟩ := hp
  have few := g.few
  have ne : xs.length ≠ 0 := fun z => g.ne (List.length_eq_zero_iff.mp z)
  have b2 : ((xs.map D.str).length : Int) < 2 ^ 200 := by
    have : (15 : Int) < 2 ^ 200 := by decide
    rw [List.length_map]; omega
  refine ⟨nd1, d, _, _, rfl, hd, rfl, by rw [List.length_map]; omega, fun z h => (nomatch h), fun d1 ys hd1 pm => ?_⟩
  obtain ⟨zs, rfl, pz⟩ := perm_strs pm
  clear pm
  refine ⟨nd1, d1, _, rfl, hd1, by rw [List.length_map]; omega, b2, fun d2 r hd2 r0 r1 => ?_⟩
  obtain ⟨n, rfl⟩ : ∃ n : Nat, r = n := ⟨r.toNat, by omega⟩
  have e1 : cutA (zs.map D.str) none (some (1 + (n : Int))) = (zs.take (1 + n)).map D.str := by
    rw [show (1 + (n : Int)) = ((1 + n : Nat) : Int) by omega, cut_to, List.map_take]
  have fin : w__law_run_2 G (endsP false [.ow d, .fz (.tup (xs.map D.str))] q fun _ _ _ _ => False) [.ow d2, .fz (.tup (xs.map D.str)), .fz (.lst ((zs.take (1 + n)).map D.str)), .fz (.lst boundsL), .un, .un] := by
    refine ⟨nd1, d2, _, _, boundsL, rfl, hd2, .inl rfl, rfl, by simp [boundsL], lenOk, fun d3 x hd3 hx => ?_⟩
    obtain ⟨i, h, rfl, i0, i3, hh⟩ := bounds_mem hx
    refine ⟨npl rfl, rfl, rfl, ?_⟩
    refine ⟨?_⟩
    simp only [allS, optK]
    have h64 : (zs.take (1 + n)).length < 64 := by
      have := pz.length_eq
      rw [List.length_take]; omega
    refine ⟨h64, fun ys p s => ?_⟩
    exact ⟨lenOk, rfl, k d3 _ hd3 ⟨ys, i, h, rfl, sort_take pz g.sg g.nodup (by omega) g.ne g.few p s, i0, i3, hh⟩⟩
  rw [← e1] at fin
  exact ⟨npl rfl, lenOk, lenOk, lenOk, lenOk, lenOk, lenOk, lenOk, lenOk, lenOk, lenOk, npl rfl, fin⟩
theorem pure__law_hole (G : Gx) : Pure false 2 3 sp__law_hole (w__law_hole G) := by
  intro cells q eq hl hp
  obtain ⟨d, xs, rfl, hd, g, k⟩ := hp
  have core : ∀ (d1 : D) (n : Nat), isDice d1 → 1 ≤ n → n ≤ 4 → LcOk [2] (wgName 2) wYes (wCallP sp__law_run (wCons (wName 0) (wCons (wName 1) wNil))) (fun y ρ => dToTup y fun z => (endsP false [.ow d, .fz (.tup (xs.map D.str))] q fun _ _ _ _ => False).rt (.val z) ρ)
      ((List.range (n : Int).toNat).map fun i => D.int (0 + (i : Nat))) [.ow d1, .fz (.tup (xs.map D.str)), .un] := by
    intro d1 n hd1 n1 n4
    refine lc_dice (fun _ y => GRun y) rfl hd1 (by rw [List.length_range]; exact Nat.le_trans (by omega) (Nat.le_of_ble_eq_true (rfl : Nat.ble 1000 sizeLine = true))) (fun i d2 K1 K2 hi hd2 kk => ?_) (fun ys d2 hd2 hl hs => ?_)
    · exact ⟨nd1, d2, xs, rfl, hd2, g, fun d3 r hd3 hr => kk d3 r hd3 hr⟩
    · have hl' : ys.length = n := by rw [hl, List.length_range]; rfl
      refine ⟨rfl, k d2 ys hd2 ⟨fun r hr => ?_, by omega, by omega⟩⟩
      obtain ⟨j, hj, e⟩ := List.getElem_of_mem hr
      exact hs j j r (by rw [List.getElem?_range (by rw [← hl', ] at *; exact hj)]) (by rw [List.getElem?_eq_getElem hj, e])
  refine ⟨lenOk, nd1, d, _, _, _, rfl, hd, .inl rfl, rfl, by simp, lenOk, fun d1 x hd1 hx => ?_⟩
  simp only [List.mem_cons, List.not_mem_nil, or_false] at hx
  rcases hx with rfl | rfl | rfl | rfl | rfl | rfl | rfl
  · exact ⟨⟨by decide, by decide⟩, core d1 1 hd1 (by decide) (by decide)⟩
  · exact ⟨⟨by decide, by decide⟩, core d1 1 hd1 (by decide) (by decide)⟩
  · exact ⟨⟨by decide, by decide⟩, core d1 1 hd1 (by decide) (by decide)⟩
  · exact ⟨⟨by decide, by decide⟩, core d1 2 hd1 (by decide) (by decide)⟩
  · exact ⟨⟨by decide, by decide⟩, core d1 2 hd1 (by decide) (by decide)⟩
  · exact ⟨⟨by decide, by decide⟩, core d1 3 hd1 (by decide) (by decide)⟩
  · exact ⟨⟨by decide, by decide⟩, core d1 4 hd1 (by decide) (by decide)⟩
section
variable {G : Gx} {P : Program} {wd : World} {mg : Str → Option Value} {base : Heap}
theorem ok__law_signs (T : Tx G wd mg) : PFnK G P wd mg base CX0 3 "_law_signs" 2 false sp__law_signs := by
  have G__law_all_signs := ok__law_all_signs (P := P) (wd := wd) (base := base) T
  have G__law_roll := ok__law_roll (P := P) (wd := wd) (base := base) T
  have G__law_mixed := ok__law_mixed (P := P) (wd := wd) (base := base) T
  refine ⟨⟨T.a__law_signs, T.d__law_signs, ps__law_signs, fnPk T.F__law_signs sc__law_signs (by decide) (w := w__law_signs G) (fun cdv A outer s H E hr => ?_) (pure__law_signs G), T.m__law_signs, T.F__law_signs.kp, T.b__law_signs⟩, len__law_signs⟩
  exact (py_cons (py_par 2 3 rfl sc__law_signs.nd rfl rfl (by decide) rfl rfl (pxa_cons (px_if (pxw (pxw_and (pxt_cmp lt_ok lt_s (px_name 1) px_int (nomark _)) (pxw_and1 (pxt_cmp gt_ok gt_s (px_callPk G__law_roll (hr.mono (by decide)) rfl (pxa_cons (px_name 0) (pxa_cons px_int pxa_nil))) px_int (nomark _))))) px_str (px_callPk0 G__law_all_signs (hr.mono (by decide)) rfl)) (pxa_cons (px_op add_ok add_s px_int (px_callPk G__law_roll (hr.mono (by decide)) rfl (pxa_cons (px_name 0) (pxa_cons (px_name 1) pxa_nil)))) pxa_nil)))
  (py_one (py_ret (px_callT tuple_ofK toTup_s rfl T.n_tuple (by decide +kernel) (pxa_cons (px_callB sortedSK sorted_s rfl T.n_sorted (by decide +kernel) (pxa_cons (px_cut (px_callPk G__law_mixed (hr.mono (by decide)) rfl (pxa_cons (px_name 0) (pxa_cons (px_callT (toLst_ok rfl) toLst_s rfl T.n_list (by decide +kernel) (pxa_cons (px_name 2) pxa_nil)) pxa_nil))) pxo_none (pxo_some (px_name 3))) pxa_nil)) pxa_nil)))))
theorem ok__law_run (T : Tx G wd mg) : PFnK G P wd mg base CX0 3 "_law_run" 2 false sp__law_run := by
  have G__law_one_of := ok__law_one_of (P := P) (wd := wd) (base := base) T
  have G__law_mixed := ok__law_mixed (P := P) (wd := wd) (base := base) T
  have G__law_roll := ok__law_roll (P := P) (wd := wd) (base := base) T
  refine ⟨⟨T.a__law_run, T.d__law_run, ps__law_run, fnPk T.F__law_run sc__law_run (by decide) (w := w__law_run G) (fun cdv A outer s H E hr => ?_) (pure__law_run G), T.m__law_run, T.F__law_run.kp, T.b__law_run⟩, len__law_run⟩
  exact (py_cons (py_set 2 sc__law_run.nd rfl (Or.inl rfl) (px_cut (px_callPk G__law_mixed (hr.mono (by decide)) rfl (pxa_cons (px_name 0) (pxa_cons (px_callT (toLst_ok rfl) toLst_s rfl T.n_list (by decide +kernel) (pxa_cons (px_name 1) pxa_nil)) pxa_nil))) pxo_none (pxo_some (px_op add_ok add_s px_int (px_callPk G__law_roll (hr.mono (by decide)) rfl (pxa_cons (px_name 0) (pxa_cons (px_callB len_anyK len_s rfl T.n_len (by decide +kernel) (pxa_cons (px_name 1) pxa_nil)) pxa_nil)))))))
  (py_cons (py_set 3 sc__law_run.nd rfl (Or.inl rfl) (px_lst (pxa_cons (px_tup (pxa_cons px_int (pxa_cons px_non pxa_nil))) (pxa_cons (px_tup (pxa_cons px_int (pxa_cons px_non pxa_nil))) (pxa_cons (px_tup (pxa_cons px_int (pxa_cons px_int pxa_nil))) (pxa_cons (px_tup (pxa_cons px_int (pxa_cons px_int pxa_nil))) (pxa_cons (px_tup (pxa_cons px_int (pxa_cons px_int pxa_nil))) (pxa_cons (px_tup (pxa_cons px_int (pxa_cons px_non pxa_nil))) (pxa_cons (px_tup (pxa_cons px_int (pxa_cons px_int pxa_nil))) (pxa_cons (px_tup (pxa_cons px_int (pxa_cons px_int pxa_nil))) (pxa_cons (px_tup (pxa_cons px_int (pxa_cons px_non pxa_nil))) pxa_nil)))))))))))
  (py_cons (py_asg (is := [4, 5]) (px_callPk G__law_one_of (hr.mono (by decide)) rfl (pxa_cons (px_name 0) (pxa_cons (px_name 3) pxa_nil))) (pxg_tup rfl (pxgs_cons (pxg_name 4 sc__law_run.nd rfl (Or.inl rfl)) (pxgs_cons (pxg_name 5 sc__law_run.nd rfl (Or.inl rfl)) pxgs_nil))))
  (py_one (py_ret (px_tup (pxa_cons (px_callT tuple_ofK toTup_s rfl T.n_tuple (by decide +kernel) (pxa_cons (px_callB sortedSK sorted_s rfl T.n_sorted (by decide +kernel) (pxa_cons (px_name 2) pxa_nil)) pxa_nil)) (pxa_cons (px_name 4) (pxa_cons (px_name 5) pxa_nil)))))))))
theorem ok__law_hole (T : Tx G wd mg) : PFnK G P wd mg base CX0 4 "_law_hole" 2 false sp__law_hole := by
  have G__law_run := ok__law_run (P := P) (wd := wd) (base := base) T
  have G__law_one_of := ok__law_one_of (P := P) (wd := wd) (base := base) T
  refine ⟨⟨T.a__law_hole, T.d__law_hole, ps__law_hole, fnPk T.F__law_hole sc__law_hole (by decide) (w := w__law_hole G) (fun cdv A outer s H E hr => ?_) (pure__law_hole G), T.m__law_hole, T.F__law_hole.kp, T.b__law_hole⟩, len__law_hole⟩
  exact (py_one (py_ret (px_callT tuple_ofK toTup_s rfl T.n_tuple (by decide +kernel) (pxa_cons (pxn (pxn_lc (own := [("turn", 2)]) (by decide) rfl sc__law_hole.nd (pxi_range1 rfl T.n_range (pxa_cons (px_callPk G__law_one_of (hr.mono (by decide)) rfl (pxa_cons (px_name 0) (pxa_cons (px_lst (pxa_cons px_int (pxa_cons px_int (pxa_cons px_int (pxa_cons px_int (pxa_cons px_int (pxa_cons px_int (pxa_cons px_int pxa_nil)))))))) pxa_nil))) pxa_nil)) (blkOk_by (N := nm__law_hole) (sc := defScope s__law_hole) (by decide +kernel)) (fun _ _ _ _ _ => (pxg_name 2 sc__law_hole.nd rfl (Or.inl rfl))) (fun _ _ _ _ _ => pxts_nil) (fun _ _ _ _ _ => (px_callPk G__law_run (hr.mono (by decide)) rfl (pxa_cons (px_name 0) (pxa_cons (px_name 1) pxa_nil)))))) pxa_nil))))
end
end Pu
namespace Pu
open PySem PySem.Spec PyProof.Rows L2 Lk Evl StX

open My
def oddA : List D := [.non, .bl true, .bl false, .int (-1), .int (10 ^ 39), .int (10 ^ 40), .int 3, .tup [], .lst [], .dct [] [], .str (Str.ofString "A"), .str (Str.ofString "a b"), .str (Str.ofString "\n"), .str (Str.ofString "z"), .tup [.str (Str.ofString "a")], .lst [.str (Str.ofString "a")], .dct [.str (Str.ofString "a")] [.int 1]]
def oddB : List D := [.tup [.str (Str.ofString "b"), .str (Str.ofString "a")], .tup [.str (Str.ofString "a"), .str (Str.ofString "a")], .tup [.str (Str.ofString "")], .tup [.str (Str.ofString "ab")], .tup [.str (Str.ofString "a"), .int 1], .tup [.str (Str.ofString "a"), .non], .str (repS (Str.ofString "a") 2001), .tup [.tup []], .str (Str.ofString "4"), .str (Str.ofString "!"), .str (Str.ofString "~")]
theorem odd_small {x : D} (h : x ∈ oddA ++ oddB) : big x ≤ 3000 := by
  have : (oddA ++ oddB).all (fun x => decide (big x ≤ 3000)) = true := by decide +kernel
  exact of_decide_eq_true (List.all_eq_true.mp this x h)
theorem big_tyn {x : D} {n : Nat} (h : big x ≤ n) (hn : n < 2000000) : x.tyn.isSome = true := by
  cases x <;> first | rfl | (exact absurd (show 2000000 ≤ n from h) (by omega))
def sp__law_odd : PSp := fun cells q _ => ∃ d, cells = [.ow d] ∧ isDice d ∧ ∀ d' x, isDice d' → big x ≤ 3000 → q x [.ow d']
theorem len__law_odd : Len 1 sp__law_odd := fun cells q eq ⟨d, h, _⟩ => by rw [h]; rfl
def w__law_odd_2 (G : Gx) : WS := (wRet (wCallP sp__law_one_of (wCons (wName 0) (wCons (wName 1) wNil))))
def w__law_odd_1 (G : Gx) : WS := (wSeq (wAsg [1] (wOp dAdd (wName 1) (wLst (wCons (wTup (wCons (wC (.str (Str.ofString "b"))) (wCons (wC (.str (Str.ofString "a"))) wNil))) (wCons (wTup (wCons (wC (.str (Str.ofString "a"))) (wCons (wC (.str (Str.ofString "a"))) wNil))) (wCons (wTup (wCons (wC (.str (Str.ofString ""))) wNil)) (wCons (wTup (wCons (wC (.str (Str.ofString "ab"))) wNil)) (wCons (wTup (wCons (wC (.str (Str.ofString "a"))) (wCons (wC (.int 1)) wNil))) (wCons (wTup (wCons (wC (.str (Str.ofString "a"))) (wCons (wC .non) wNil))) (wCons (wOp dMul (wC (.str (Str.ofString "a"))) (wC (.int 2001))) (wCons (wTup (wCons (wTup wNil) wNil)) (wCons (wC (.str (Str.ofString "4"))) (wCons (wC (.str (Str.ofString "!"))) (wCons (wC (.str (Str.ofString "~"))) wNil))))))))))))) (wgName 1)) (w__law_odd_2 G))
/-- reading of _law_odd: slots 0:dice 1:some, owned dice -/
def w__law_odd (G : Gx) : WS := (wSeq (wAsg [1] (wLst (wCons (wC .non) (wCons (wC (.bl true)) (wCons (wC (.bl false)) (wCons (wUn dNeg (wC (.int 1))) (wCons (wOp dPow (wC (.int 10)) (wC (.int 39))) (wCons (wOp dPow (wC (.int 10)) (wC (.int 40))) (wCons (wC (.int 3)) (wCons (wTup wNil) (wCons (wLst wNil) (wCons (wV nD0) (wCons (wC (.str (Str.ofString "A"))) (wCons (wC (.str (Str.ofString "a b"))) (wCons (wC (.str (Str.ofString "\n"))) (wCons (wC (.str (Str.ofString "z"))) (wCons (wTup (wCons (wC (.str (Str.ofString "a"))) wNil)) (wCons (wLst (wCons (wC (.str (Str.ofString "a"))) wNil)) (wCons (wV (nDisp (wdCons (wC (.str (Str.ofString "a"))) (wC (.int 1)) wdNil))) wNil)))))))))))))))))) (wgName 1)) (w__law_odd_1 G))
theorem pure__law_odd (G : Gx) : Pure false 1 2 sp__law_odd (w__law_odd G) := by
  intro cells q eq hl hp
  obtain ⟨d, rfl, hd, k⟩ := hp
  have c39 : CPowB 10 39 := ⟨by decide, by decide⟩
  have c40 : CPowB 10 40 := ⟨by decide, by decide⟩
  have fin : w__law_odd_1 G (endsP false [.ow d] q fun _ _ _ _ => False) [.ow d, .fz (.lst oddA)] := by
    refine ⟨lenOk, lenOk, lenOk, lenOk, lenOk, lenOk, ⟨2001, rfl, by decide +kernel, by decide, ?_⟩⟩
    refine ⟨lenOk, lenOk, lenOk, (by decide +kernel), npl rfl, nd1, d, _, _, _, rfl, hd, .inl rfl, rfl, ?_, ?_, fun d1 x hd1 hx => ⟨rfl, k d1 x hd1 (odd_small hx)⟩⟩
    · simp [oddA]
    · exact lenOk
  exact ⟨c39, c40, lenOk, lenOk, lenOk, lenOk, ⟨(by decide), (by decide), lenOk, npl rfl, fin⟩⟩
abbrev sp__law_is_text : PSp := spLook (onS txtS)
theorem len__law_is_text : Len 1 sp__law_is_text := len_look
abbrev sp__law_is_integer : PSp := spLook intD
theorem len__law_is_integer : Len 1 sp__law_is_integer := len_look
def spLookS (f : D → Bool) (n : Nat) : PSp := fun cells q _ => ∃ d, cells = [.fz d] ∧ big d ≤ n ∧ q (.bl (f d)) cells
theorem len_lookS {f : D → Bool} {n : Nat} : Len 1 (spLookS f n) := fun cells q eq ⟨d, h, _⟩ => by rw [h]; rfl
abbrev sp__law_are_signs : PSp := spLookS signsD 3500
theorem len__law_are_signs : Len 1 sp__law_are_signs := len_lookS
abbrev sp__law_is_run : PSp := spLookS runD 3500
theorem len__law_is_run : Len 1 sp__law_is_run := len_lookS
abbrev noH : D := .str (Str.ofString "no hole")
def toldD : D → D
  | .tup ds => if holeB ds = true then hole ds else noH
  | _ => noH
def sp__law_told : PSp := fun cells q _ => ∃ d, cells = [.fz d] ∧ bigO d ∧ q (toldD d) cells
theorem len__law_told : Len 1 sp__law_told := fun cells q eq ⟨d, h, _⟩ => by rw [h]; rfl
def aloneD (w : Int) (a b : D) : D := if w = 0 then toldD (.tup [a]) else if w = 1 then toldD (.tup [a, b]) else noH
def sp__law_told_alone : PSp := fun cells q _ => ∃ w a b, cells = [.fz (.int w), .fz a, .fz b] ∧ 0 ≤ w ∧ w ≤ 3 ∧ big a ≤ 900000 ∧ big b ≤ 900000 ∧ q (aloneD w a b) cells
theorem len__law_told_alone : Len 3 sp__law_told_alone := fun cells q eq ⟨d, a, b, h, _⟩ => by rw [h]; rfl
/-- reading of _law_is_text: slots 0:value 1:sign, owned - -/
def w__law_is_text (G : Gx) : WS := (wRet (wAndV (wCall (d2 (dIsi .str)) (wCons (wName 0) (wCons (wC (.ty "str")) wNil))) (wOp dEq0 (wV (nLc [1] (wItems (wName 0)) (wgName 1) (wB (wOp dNotIn (wName 1) (wC (.str (Str.ofString "#$0123:_abcdefg"))))) (wName 1))) (wLst wNil))))
/-- reading of _law_is_integer: slots 0:value, owned - -/
def w__law_is_integer (G : Gx) : WS := (wRet (wAndV (wCall (d2 (dIsi .int)) (wCons (wName 0) (wCons (wC (.ty "int")) wNil))) (wAndV (wNotV (wCall (d2 (dIsi .bool)) (wCons (wName 0) (wCons (wC (.ty "bool")) wNil)))) (wChain dLt dLt (wUn dNeg (wOp dPow (wC (.int 10)) (wC (.int 40)))) (wName 0) (wOp dPow (wC (.int 10)) (wC (.int 40)))))))
def w__law_are_signs_1 (G : Gx) : WS := (wRet (wOp dEq (wCall (d1 dToLst) (wCons (wName 0) wNil)) (wSortSet (wName 0))))
/-- reading of _law_are_signs: slots 0:value 1:one, owned - -/
def w__law_are_signs (G : Gx) : WS := (wSeq (wIfS (wOrT (wNotT (wTru (wCall (d2 (dIsi .tup)) (wCons (wName 0) (wCons (wC (.ty "tuple")) wNil))))) (wB (wOp dNe0 (wV (nLc [1] (wItems (wName 0)) (wgName 1) (wOrT (wNotT (wTru (wCallP sp__law_is_text (wCons (wName 1) wNil)))) (wB (wOp dNe (wCall (d1 dLen) (wCons (wName 1) wNil)) (wC (.int 1))))) (wName 1))) (wLst wNil))))
  (wRet (wC (.bl false)))
  wNext) (w__law_are_signs_1 G))
/-- reading of _law_told: slots 0:runs, owned - -/
def w__law_told (G : Gx) : WS := (wTry G (wRet (wCMeth "Hole" sp_Hole_of (wC (.cls "Hole")) (wCons (wName 0) wNil))) [("InvalidHole", (wRet (wC (.str (Str.ofString "no hole")))))])
/-- reading of _law_told_alone: slots 0:way 1:one 2:two, owned - -/
def w__law_told_alone (G : Gx) : WS := (wTry G (wSeq (wIfS (wB (wOp dEq (wName 0) (wC (.int 0))))
  (wRet (wMakeS "Hole" sp_Hole___init__ (wCons (wName 1) wNil)))
  wNext)
  (wSeq (wIfS (wB (wOp dEq (wName 0) (wC (.int 1))))
  (wRet (wMakeS "Hole" sp_Hole___init__ (wCons (wName 1) (wCons (wName 2) wNil))))
  wNext)
  (wRet (wIf (wB (wOp dEq (wName 0) (wC (.int 2)))) (wMakeS "Hole" sp_Hole___init__ wNil) (wMakeS "Hole" sp_Hole___init__ (wCons (wName 1) (wCons (wName 2) (wCons (wName 1) (wCons (wName 2) (wCons (wName 1) wNil)))))))))) [("InvalidHole", (wRet (wC (.str (Str.ofString "no hole")))))])
def w__law_is_run_3 (G : Gx) : WS := (wRet (wOrV (wOp dIsN (wName 2) (wC .non)) (wAndV (wCallP sp__law_is_integer (wCons (wName 2) wNil)) (wAndV (wChain dLe dLe (wC (.int 1)) (wName 2) (wC (.int 3))) (wOp dLe (wName 1) (wName 2))))))
def w__law_is_run_2 (G : Gx) : WS := (wSeq (wIfS (wOrT (wNotT (wTru (wCallP sp__law_is_integer (wCons (wName 1) wNil)))) (wNotT (wB (wChain dLe dLe (wC (.int 0)) (wName 1) (wC (.int 3))))))
  (wRet (wC (.bl false)))
  wNext) (w__law_is_run_3 G))
def w__law_is_run_1 (G : Gx) : WS := (wSeq (wPar 1 2 (wCons (wOp dIx (wName 0) (wC (.int 1))) (wCons (wOp dIx (wName 0) (wC (.int 2))) wNil))) (w__law_is_run_2 G))
/-- reading of _law_is_run: slots 0:value 1:low 2:high, owned - -/
def w__law_is_run (G : Gx) : WS := (wSeq (wIfS (wOrT (wNotT (wTru (wCall (d2 (dIsi .tup)) (wCons (wName 0) (wCons (wC (.ty "tuple")) wNil))))) (wOrT (wB (wOp dNe (wCall (d1 dLen) (wCons (wName 0) wNil)) (wC (.int 3)))) (wOrT (wNotT (wTru (wCallP sp__law_are_signs (wCons (wOp dIx (wName 0) (wC (.int 0))) wNil)))) (wB (wOp dEq (wOp dIx (wName 0) (wC (.int 0))) (wTup wNil))))))
  (wRet (wC (.bl false)))
  wNext) (w__law_is_run_1 G))
theorem all_nil {α : Type} {p : α → Bool} {xs : List α} : (xs.filter fun x => !p x).isEmpty = xs.all p := by
  induction xs with
  | nil => rfl
  | cons x xs ih =>
    cases h : p x with
    | true => rw [List.filter_cons_of_neg (by simp [h]), ih, List.all_cons, h, Bool.true_and]
    | false => rw [List.filter_cons_of_pos (by simp [h]), List.all_cons, h, Bool.false_and]; rfl
theorem pure__law_is_text (G : Gx) : Pure false 1 2 sp__law_is_text (w__law_is_text G) := by
  intro cells q eq hl hp
  obtain ⟨d, rfl, hb, k⟩ := hp
  cases d <;> first | (exact absurd (show 2000000 ≤ 1000000 from hb) (by decide)) | (exact ⟨rfl, rfl, k⟩) | skip
  rename_i z
  refine ⟨rfl, lc_flt (fun c => !decide (c ∈ sigs)) (tl_size hb) (fun c K1 K2 hc k1 k2 => ?_) ?_⟩
  · exact ite2 (fun h => k1 h) (fun h => k2 h)
  · have e : (((tl z).filter fun c => !decide (c ∈ sigs)).map fun c => D.str (sgn c)).isEmpty = txtS z := by
      rw [List.isEmpty_map, all_nil]; rfl
    refine ⟨lenOk, rfl, ?_⟩
    show q (.bl (((tl z).filter fun c => !decide (c ∈ sigs)).map fun c => D.str (sgn c)).isEmpty) _
    rw [e]; exact k
theorem pure__law_is_integer (G : Gx) : Pure false 1 1 sp__law_is_integer (w__law_is_integer G) := by
  intro cells q eq hl hp
  obtain ⟨d, rfl, hb, k⟩ := hp
  have c40 : CPowB 10 40 := ⟨by decide, by decide⟩
  have e40 : (10 : Int) ^ Int.toNat 40 = 10000000000000000000000000000000000000000 := by decide
  cases d <;> first | (exact absurd (show 2000000 ≤ 1000000 from hb) (by decide)) | (exact ⟨rfl, rfl, k⟩) | skip
  · exact ⟨rfl, rfl, rfl, k⟩
  · rename_i i
    have fin : ∀ b, intD (.int i) = b → q (.bl b) [.fz (.int i)] := fun b e => by subst e; exact k
    refine ⟨rfl, rfl, c40, ite2 (fun h1 => ⟨c40, rfl, fin _ ?_⟩) (fun h1 => ⟨rfl, fin _ ?_⟩)⟩
    · have := of_decide_eq_true h1
      rw [e40] at this
      show (decide _ && decide _) = _
      rw [decide_eq_true (by omega), Bool.true_and]
      exact decide_eq_decide.mpr ⟨fun h => by show i < 10000000000000000000000000000000000000000; omega, fun h => by have h : i < 10000000000000000000000000000000000000000 := h; omega⟩
    · have := of_decide_eq_false h1
      rw [e40] at this
      show (decide _ && decide _) = _
      rw [decide_eq_false (by omega), Bool.false_and]
theorem fo_nil {α β : Type} {f : α → Option β} : ∀ {xs : List α}, (xs.filterMap f).isEmpty = xs.all fun x => (f x).isNone
  | [] => rfl
  | x :: xs => by
    cases h : f x with
    | none => rw [List.filterMap_cons_none h, fo_nil, List.all_cons, h]; rfl
    | some y => rw [List.filterMap_cons_some h, List.all_cons, h]; rfl
def badS (d : D) : Option D := if onS signS d = true then none else some d
theorem badS_none {d : D} : (badS d).isNone = onS signS d := by
  unfold badS
  cases h : onS signS d <;> rfl
theorem texts_strs (xs : List Str) : (D.tup (xs.map D.str)).texts = some xs := by show allM D.asS (xs.map D.str) = _; exact allS xs
theorem pure__law_are_signs (G : Gx) : Pure false 1 2 sp__law_are_signs (w__law_are_signs G) := by
  intro cells q eq hl hp
  obtain ⟨d, rfl, hb, k⟩ := hp
  cases d <;> first | (exact absurd (show 2000000 ≤ 3500 from hb) (by decide)) | (exact ⟨rfl, rfl, k⟩) | skip
  rename_i ds
  obtain ⟨h1, h2⟩ := big_tup hb
  refine ⟨rfl, lc_fo' badS (size_le (by omega)) (fun d K1 K2 hd k1 k2 => ?_) ⟨lenOk, ?_⟩⟩
  · refine ⟨nd0, d, rfl, Nat.le_trans (h2 d hd) (by decide), ite2 (fun h => ?_) (fun h => ?_)⟩
    · refine k1 d ?_
      unfold badS
      rw [if_neg]
      intro z
      obtain ⟨y, rfl, hz⟩ := onS_inv z
      unfold signS at hz
      rw [Bool.and_eq_true] at hz
      have h : (!txtS y) = true := h
      rw [hz.2] at h; cases h
    · obtain ⟨z, rfl, hz⟩ := onS_inv (show onS txtS d = true by simpa using h)
      have hz2 := h2 _ hd
      refine ⟨size_le (Nat.le_trans hz2 (by decide)), ite2 (fun h => ?_) (fun h => ?_)⟩
      · refine k1 _ ?_
        unfold badS
        rw [if_neg]
        intro q
        have q : signS z = true := q
        unfold signS at q
        rw [Bool.and_eq_true] at q
        have q := of_decide_eq_true q.1
        simp [q] at h
      · refine k2 ?_
        unfold badS
        rw [if_pos]
        show signS z = true
        unfold signS
        rw [hz, Bool.and_true]
        have h := of_decide_eq_true (show decide ((z.length : Int) = 1) = true by simpa using h)
        exact decide_eq_true (by omega)
  · show (if (!(ds.filterMap badS).isEmpty) = true then _ else _)
    rw [fo_nil]
    simp only [badS_none]
    refine ite2 (fun h => ⟨rfl, ?_⟩) (fun h => ?_)
    · have : signsD (.tup ds) = false := by show (ds.all (onS signS) && _) = false; rw [show ds.all (onS signS) = false by simpa using h, Bool.false_and]
      rw [this] at k; exact k
    · obtain ⟨xs, rfl, hx⟩ := strs_inv (show ds.all (onS signS) = true by simpa using h)
      rw [signs_mk hx] at k
      rw [List.length_map] at h1
      have so := fun z hz => sign_ok (hx z hz)
      show optK _ _
      rw [texts_strs]
      refine ⟨(by omega), fun ys ny my sy => ?_⟩
      refine eqD_strs so (fun z hz => so z ((my z).mp hz)) ⟨rfl, ?_⟩
      rw [eq_sorted ny my sy]; exact k
theorem chk_low {i : Int} : (if 0 ≤ i ∧ i ≤ 3 then some i else none : Option Int) = lowD (.int i) := rfl
theorem pure__law_is_run (G : Gx) : Pure false 1 3 sp__law_is_run (w__law_is_run G) := by
  intro cells q eq hl hp
  obtain ⟨d, rfl, hb, k⟩ := hp
  cases d <;> first | (exact absurd (show 2000000 ≤ 3500 from hb) (by decide)) | (exact ⟨rfl, rfl, k⟩) | skip
  rename_i ds
  obtain ⟨h1, h2⟩ := big_tup hb
  refine ⟨rfl, ite2 (fun h => ⟨rfl, ?_⟩) (fun h => ?_)⟩
  · rw [run_short (fun z => by rw [z] at h; cases h)] at k; exact k
  · obtain ⟨s, l, u, rfl⟩ := three (ds := ds) (by have := of_decide_eq_true (by simpa using h : decide ((ds.length : Int) = 3) = true); omega)
    have fin : ∀ b, runD (.tup [s, l, u]) = b → q (.bl b) [.fz (.tup [s, l, u])] := fun b e => by subst e; exact k
    refine ⟨s, rfl, nd0, s, rfl, h2 s (by simp), ite2 (fun hs => ⟨rfl, fin _ ?_⟩) (fun hs => ⟨s, rfl, ?_⟩)⟩
    · rw [run_eq, show signsD s = false by simpa using hs, Bool.false_and]
    · have hs' : signsD s = true := by simpa using hs
      obtain ⟨xs, rfl, hx, ha⟩ := signs_inv hs'
      refine ⟨lenOk, eqD_nilT (fun z hz => sign_ok (hx z hz)) (ite2 (fun hn => ⟨rfl, fin _ ?_⟩) (fun hn => ?_))⟩
      · rw [run_eq, nil_tup, hn, hs']; rfl
      · have bi : ∀ d : D, big d ≤ 3500 → big d ≤ 1000000 := fun d h => Nat.le_trans h (by decide)
        refine ⟨l, rfl, u, rfl, np rfl, np rfl, nd0, l, rfl, bi _ (h2 l (by simp)), ite2 (fun hi => ⟨rfl, fin _ ?_⟩) (fun hi => ?_)⟩
        · rw [run_eq, int_low (by simpa using hi)]; simp
        · obtain ⟨i, rfl⟩ := int_inv (show intD l = true by simpa using hi)
          have lown : (¬ (0 ≤ i ∧ i ≤ 3)) → runD (.tup [.tup (xs.map D.str), .int i, u]) = false := fun z => by
            rw [run_eq, show lowD (.int i) = none from if_neg z]; simp
          refine ite2 (fun h0 => ite2 (fun h3 => ⟨rfl, fin _ (lown fun z => ?_)⟩) (fun h3 => ?_)) (fun h0 => ⟨rfl, fin _ (lown fun z => ?_)⟩)
          · have h3 : 3 < i := by simpa using h3
            omega
          · have g0 := of_decide_eq_true h0
            have g3 : i ≤ 3 := of_decide_eq_true (by simpa using h3)
            have e : runD (.tup [.tup (xs.map D.str), .int i, u]) = highD i u := by
              rw [run_eq, hs', nil_tup, hn, show lowD (.int i) = some i from if_pos ⟨g0, g3⟩]; rfl
            rw [e] at fin
            refine ite2 (fun hu => ⟨rfl, fin _ ?_⟩) (fun hu => ⟨nd0, u, rfl, bi _ (h2 u (by simp)), ite2 (fun hj => ?_) (fun hj => ⟨rfl, fin _ (int_high hj hu)⟩)⟩)
            · cases u <;> first | rfl | cases hu
            · obtain ⟨j, rfl⟩ := int_inv hj
              have eh : highD i (.int j) = (decide (max i 1 ≤ j) && decide (j ≤ 3)) := rfl
              refine ite2 (fun q1 => ite2 (fun q3 => ⟨rfl, fin _ ?_⟩) (fun q3 => ⟨rfl, fin _ ?_⟩)) (fun q1 => ⟨rfl, fin _ ?_⟩)
              · have q1 := of_decide_eq_true q1
                have q3 := of_decide_eq_true q3
                rw [eh, decide_eq_true q3, Bool.and_true]
                exact decide_eq_decide.mpr ⟨fun h => by omega, fun h => by omega⟩
              · rw [eh, q3, Bool.and_false]
              · have q1 := of_decide_eq_false q1
                rw [eh, decide_eq_false (by omega), Bool.false_and]
          · have h0 := of_decide_eq_false h0; exact h0 z.1
theorem told_bad {d : D} (h : ofB d = false) : toldD d = noH := by
  cases d <;> first | rfl | skip
  rename_i ds
  exact if_neg (by rw [show holeB ds = false from h]; exact Bool.false_ne_true)
theorem pure__law_told {G : Gx} (T : G.sub "InvalidHole" "InvalidHole" = some true) : Pure false 1 1 sp__law_told (w__law_told G) := by
  intro cells q eq hl hp
  obtain ⟨d, rfl, hb, k⟩ := hp
  refine ⟨rfl, nd0, d, rfl, hb, fun ds e h => ?_, fun h => ?_⟩
  · subst e
    exact ⟨rfl, by rw [show toldD (.tup ds) = hole ds from if_pos h] at k; exact k⟩
  · exact ⟨true, T, fun _ => ⟨rfl, by rw [told_bad h] at k; exact k⟩, fun h => nomatch h⟩
theorem bigs_small {ds : List D} (h : ∀ d ∈ ds, big d ≤ 900000) (hl : ds.length ≤ 10) : big (.tup ds) ≤ 1000000 := by
  rw [big]
  exact Nat.max_le.mpr ⟨by omega, Nat.le_trans (bigs_le h) (by decide)⟩
theorem told_good {ds : List D} (h : holeB ds = true) : toldD (.tup ds) = hole ds := if_pos h
theorem pure__law_told_alone {G : Gx} (T : G.sub "InvalidHole" "InvalidHole" = some true) : Pure false 3 3 sp__law_told_alone (w__law_told_alone G) := by
  intro cells q eq hl hp
  obtain ⟨w, a, b, rfl, w0, w3, ha, hb, k⟩ := hp
  have mem : ∀ {ds : List D}, (∀ d ∈ ds, d = a ∨ d = b) → ds.length ≤ 10 → big (.tup ds) ≤ 1000000 := fun {ds} h hl =>
    bigs_small (fun d hd => by rcases h d hd with rfl | rfl; exact ha; exact hb) hl
  have bad : aloneD w a b = noH → catchP G [("InvalidHole", wRet (wC (.str (Str.ofString "no hole"))))] (endsP false [.fz (.int w), .fz a, .fz b] q fun _ _ _ _ => False) "InvalidHole" [] [] [.fz (.int w), .fz a, .fz b] := fun e =>
    ⟨true, T, fun _ => ⟨rfl, by rw [e] at k; exact k⟩, fun h => nomatch h⟩
  refine ite2 (fun h => ?_) (fun h => ite2 (fun h1 => ?_) (fun h1 => ite2 (fun h2 => ?_) (fun h2 => ?_)))
  · have e : aloneD w a b = toldD (.tup [a]) := if_pos (of_decide_eq_true h)
    refine ⟨lenOk, [a], rfl, mem (by simp) (Nat.le_of_ble_eq_true rfl), fun g => ⟨rfl, rfl, rfl, ?_⟩, fun g => bad (by rw [e]; exact told_bad g)⟩
    rw [e, told_good g] at k; exact k
  · have e : aloneD w a b = toldD (.tup [a, b]) := by
      unfold aloneD
      rw [if_neg (of_decide_eq_false h), if_pos (of_decide_eq_true h1)]
    refine ⟨lenOk, [a, b], rfl, mem (by simp) (Nat.le_of_ble_eq_true rfl), fun g => ⟨rfl, rfl, rfl, ?_⟩, fun g => bad (by rw [e]; exact told_bad g)⟩
    rw [e, told_good g] at k; exact k
  · have e : aloneD w a b = noH := by
      unfold aloneD
      rw [if_neg (of_decide_eq_false h), if_neg (of_decide_eq_false h1)]
    exact ⟨lenOk, [], rfl, mem (by simp) (Nat.le_of_ble_eq_true rfl), fun g => absurd (show false = true from g) (by decide), fun g => bad e⟩
  · have e : aloneD w a b = noH := by
      unfold aloneD
      rw [if_neg (of_decide_eq_false h), if_neg (of_decide_eq_false h1)]
    exact ⟨lenOk, [a, b, a, b, a], rfl, mem (by simp) (Nat.le_of_ble_eq_true rfl), fun g => absurd (show false = true from g) (by decide), fun g => bad e⟩
section
variable {G : Gx} {P : Program} {wd : World} {mg : Str → Option Value} {base : Heap}
theorem ok__law_odd (T : Tx G wd mg) : PFnK G P wd mg base CX0 3 "_law_odd" 1 false sp__law_odd := by
  have G__law_one_of := ok__law_one_of (P := P) (wd := wd) (base := base) T
  refine ⟨⟨T.a__law_odd, T.d__law_odd, ps__law_odd, fnPk T.F__law_odd sc__law_odd (by decide) (w := w__law_odd G) (fun cdv A outer s H E hr => ?_) (pure__law_odd G), T.m__law_odd, T.F__law_odd.kp, T.b__law_odd⟩, len__law_odd⟩
  exact (py_cons (py_set 1 sc__law_odd.nd rfl (Or.inl rfl) (px_lst (pxa_cons px_non (pxa_cons px_bl (pxa_cons px_bl (pxa_cons (px_un un_neg neg_s px_int) (pxa_cons (px_op pow_ok pow_s px_int px_int) (pxa_cons (px_op pow_ok pow_s px_int px_int) (pxa_cons px_int (pxa_cons (px_tup pxa_nil) (pxa_cons (px_lst pxa_nil) (pxa_cons (pxn pxn_d0) (pxa_cons px_str (pxa_cons px_str (pxa_cons px_str (pxa_cons px_str (pxa_cons (px_tup (pxa_cons px_str pxa_nil)) (pxa_cons (px_lst (pxa_cons px_str pxa_nil)) (pxa_cons (pxn (pxn_disp (pxd_cons px_str px_int pxd_nil) rfl rfl (by decide) (by decide))) pxa_nil)))))))))))))))))))
  (py_cons (py_set 1 sc__law_odd.nd rfl (Or.inl rfl) (px_op add_ok add_s (px_name 1) (px_lst (pxa_cons (px_tup (pxa_cons px_str (pxa_cons px_str pxa_nil))) (pxa_cons (px_tup (pxa_cons px_str (pxa_cons px_str pxa_nil))) (pxa_cons (px_tup (pxa_cons px_str pxa_nil)) (pxa_cons (px_tup (pxa_cons px_str pxa_nil)) (pxa_cons (px_tup (pxa_cons px_str (pxa_cons px_int pxa_nil))) (pxa_cons (px_tup (pxa_cons px_str (pxa_cons px_non pxa_nil))) (pxa_cons (px_op mul_ok mul_s px_str px_int) (pxa_cons (px_tup (pxa_cons (px_tup pxa_nil) pxa_nil)) (pxa_cons px_str (pxa_cons px_str (pxa_cons px_str pxa_nil))))))))))))))
  (py_one (py_ret (px_callPk G__law_one_of (hr.mono (by decide)) rfl (pxa_cons (px_name 0) (pxa_cons (px_name 1) pxa_nil)))))))
theorem ok__law_is_text (T : Tx G wd mg) : PFnK G P wd mg base CX0 1 "_law_is_text" 1 false sp__law_is_text := by
  refine ⟨⟨T.a__law_is_text, T.d__law_is_text, ps__law_is_text, fnPk T.F__law_is_text sc__law_is_text (by decide) (w := w__law_is_text G) (fun cdv A outer s H E hr => ?_) (pure__law_is_text G), T.m__law_is_text, T.F__law_is_text.kp, T.b__law_is_text⟩, len__law_is_text⟩
  exact (py_one (py_ret (px_and (px_callB isiK (isi_s .str) rfl T.n_isinstance (by decide +kernel) (pxa_cons (px_name 0) (pxa_cons (px_ty rfl T.n_str (by decide +kernel)) pxa_nil))) (px_one (px_cmp (eq0_ok hr.units) eq0_s (pxn (pxn_lc (own := [("sign", 1)]) (by decide) rfl sc__law_is_text.nd (pxi_any (px_name 0)) (blkOk_by (N := nm__law_is_text) (sc := defScope s__law_is_text) (by decide +kernel)) (fun _ _ _ _ _ => (pxg_name 1 sc__law_is_text.nd rfl (Or.inl rfl))) (fun _ _ _ _ _ => pxts_one (pxt_cmp (notIn_ok hr.units65) notIn_s (px_name 1) px_str (by rfl))) (fun _ _ _ _ _ => (px_name 1)))) (px_lst pxa_nil) (nomark _))))))
theorem ok__law_is_integer (T : Tx G wd mg) : PFnK G P wd mg base CX0 1 "_law_is_integer" 1 false sp__law_is_integer := by
  refine ⟨⟨T.a__law_is_integer, T.d__law_is_integer, ps__law_is_integer, fnPk T.F__law_is_integer sc__law_is_integer (by decide) (w := w__law_is_integer G) (fun cdv A outer s H E hr => ?_) (pure__law_is_integer G), T.m__law_is_integer, T.F__law_is_integer.kp, T.b__law_is_integer⟩, len__law_is_integer⟩
  exact (py_one (py_ret (px_and (px_callB isiK (isi_s .int) rfl T.n_isinstance (by decide +kernel) (pxa_cons (px_name 0) (pxa_cons (px_ty rfl T.n_int (by decide +kernel)) pxa_nil))) (px_and (px_not (px_callB isiK (isi_s .bool) rfl T.n_isinstance (by decide +kernel) (pxa_cons (px_name 0) (pxa_cons (px_ty rfl T.n_bool (by decide +kernel)) pxa_nil)))) (px_one (px_chain lt_ok lt_s lt_ok lt_s (px_un un_neg neg_s (px_op pow_ok pow_s px_int px_int)) (px_name 0) (px_op pow_ok pow_s px_int px_int)))))))
theorem ok__law_are_signs (T : Tx G wd mg) : PFnK G P wd mg base CX0 2 "_law_are_signs" 1 false sp__law_are_signs := by
  have G__law_is_text := ok__law_is_text (P := P) (wd := wd) (base := base) T
  refine ⟨⟨T.a__law_are_signs, T.d__law_are_signs, ps__law_are_signs, fnPk T.F__law_are_signs sc__law_are_signs (by decide) (w := w__law_are_signs G) (fun cdv A outer s H E hr => ?_) (pure__law_are_signs G), T.m__law_are_signs, T.F__law_are_signs.kp, T.b__law_are_signs⟩, len__law_are_signs⟩
  exact (py_cons (py_if (pxw (pxw_or (pxt_not (pxt_val (px_callB isiK (isi_s .tup) rfl T.n_isinstance (by decide +kernel) (pxa_cons (px_name 0) (pxa_cons (px_ty rfl T.n_tuple (by decide +kernel)) pxa_nil))))) (pxw_or1 (pxt_cmp (ne0_ok hr.units) ne0_s (pxn (pxn_lc (own := [("one", 1)]) (by decide) rfl sc__law_are_signs.nd (pxi_any (px_name 0)) (blkOk_by (N := nm__law_are_signs) (sc := defScope s__law_are_signs) (by decide +kernel)) (fun _ _ _ _ _ => (pxg_name 1 sc__law_are_signs.nd rfl (Or.inl rfl))) (fun _ _ _ _ _ => pxts_one (pxw (pxw_or (pxt_not (pxt_val (px_callPk G__law_is_text (hr.mono (by decide)) rfl (pxa_cons (px_name 1) pxa_nil)))) (pxw_or1 (pxt_cmp (ne_ok hr.units) ne_s (px_callB len_anyK len_s rfl T.n_len (by decide +kernel) (pxa_cons (px_name 1) pxa_nil)) px_int (nomark _)))))) (fun _ _ _ _ _ => (px_name 1)))) (px_lst pxa_nil) (nomark _)))))
  (py_one (py_ret px_bl))
  py_nil)
  (py_one (py_ret (px_cmp (eq_ok hr.units) eq_s (px_callT (toLst_ok rfl) toLst_s rfl T.n_list (by decide +kernel) (pxa_cons (px_name 0) pxa_nil)) (px_sortSet rfl rfl T.n_sorted (by decide +kernel) rfl T.n_set (by decide +kernel) (px_name 0)) (nomark _)))))
theorem ok__law_is_run (T : Tx G wd mg) : PFnK G P wd mg base CX0 3 "_law_is_run" 1 false sp__law_is_run := by
  have G__law_are_signs := ok__law_are_signs (P := P) (wd := wd) (base := base) T
  have G__law_is_integer := ok__law_is_integer (P := P) (wd := wd) (base := base) T
  refine ⟨⟨T.a__law_is_run, T.d__law_is_run, ps__law_is_run, fnPk T.F__law_is_run sc__law_is_run (by decide) (w := w__law_is_run G) (fun cdv A outer s H E hr => ?_) (pure__law_is_run G), T.m__law_is_run, T.F__law_is_run.kp, T.b__law_is_run⟩, len__law_is_run⟩
  exact (py_cons (py_if (pxw (pxw_or (pxt_not (pxt_val (px_callB isiK (isi_s .tup) rfl T.n_isinstance (by decide +kernel) (pxa_cons (px_name 0) (pxa_cons (px_ty rfl T.n_tuple (by decide +kernel)) pxa_nil))))) (pxw_or (pxt_cmp (ne_ok hr.units) ne_s (px_callB len_anyK len_s rfl T.n_len (by decide +kernel) (pxa_cons (px_name 0) pxa_nil)) px_int (nomark _)) (pxw_or (pxt_not (pxt_val (px_callPk G__law_are_signs (hr.mono (by decide)) rfl (pxa_cons (px_ix ix_ok ix_s (px_name 0) px_int (fun _ _ => rfl)) pxa_nil)))) (pxw_or1 (pxt_cmp (eq_ok hr.units) eq_s (px_ix ix_ok ix_s (px_name 0) px_int (fun _ _ => rfl)) (px_tup pxa_nil) (nomark _)))))))
  (py_one (py_ret px_bl))
  py_nil)
  (py_cons (py_par 1 2 rfl sc__law_is_run.nd rfl rfl (by decide) rfl rfl (pxa_cons (px_ix ix_ok ix_s (px_name 0) px_int (fun _ _ => rfl)) (pxa_cons (px_ix ix_ok ix_s (px_name 0) px_int (fun _ _ => rfl)) pxa_nil)))
  (py_cons (py_if (pxw (pxw_or (pxt_not (pxt_val (px_callPk G__law_is_integer (hr.mono (by decide)) rfl (pxa_cons (px_name 1) pxa_nil)))) (pxw_or1 (pxt_not (pxt_chain le_ok le_s le_ok le_s px_int (px_name 1) px_int)))))
  (py_one (py_ret px_bl))
  py_nil)
  (py_one (py_ret (px_or (px_cmp op_isN1 isN_s (px_name 2) px_non (nomark _)) (px_one (px_and (px_callPk G__law_is_integer (hr.mono (by decide)) rfl (pxa_cons (px_name 2) pxa_nil)) (px_and (px_chain le_ok le_s le_ok le_s px_int (px_name 2) px_int) (px_one (px_cmp le_ok le_s (px_name 1) (px_name 2) (nomark _))))))))))))
theorem ok__law_told (T : Tx G wd mg) : PFnK G P wd mg base CX0 8 "_law_told" 1 false sp__law_told := by
  have M_Hole_of := ok_Hole_of (P := P) (wd := wd) (base := base) T
  refine ⟨⟨T.a__law_told, T.d__law_told, ps__law_told, fnPk T.F__law_told sc__law_told (by decide) (w := w__law_told G) (fun cdv A outer s H E hr => ?_) (pure__law_told T.e_InvalidHole_InvalidHole), T.m__law_told, T.F__law_told.kp, T.b__law_told⟩, len__law_told⟩
  exact (py_one (py_try rfl rfl takes0 (fun W pn xe tk hpo => (py_one (py_ret (px_cmeth M_Hole_of (fun σ => passAt tk σ) (hr.mono (by decide)) (px_gcls rfl T.m_Hole) (pxa_cons (px_name 0) pxa_nil))))) (.cons (C := "InvalidHole") ⟨rfl, rfl, .inl T.m_InvalidHole⟩ (fun a oe cls d pn hz hf => (py_one (py_ret px_str))) .nil)))
theorem ok__law_told_alone (T : Tx G wd mg) : PFnK G P wd mg base CX0 6 "_law_told_alone" 3 false sp__law_told_alone := by
  have M_Hole___init__ := ok_Hole___init__ (P := P) (wd := wd) (base := base) T
  refine ⟨⟨T.a__law_told_alone, T.d__law_told_alone, ps__law_told_alone, fnPk T.F__law_told_alone sc__law_told_alone (by decide) (w := w__law_told_alone G) (fun cdv A outer s H E hr => ?_) (pure__law_told_alone T.e_InvalidHole_InvalidHole), T.m__law_told_alone, T.F__law_told_alone.kp, T.b__law_told_alone⟩, len__law_told_alone⟩
  exact (py_one (py_try rfl rfl takes0 (fun W pn xe tk hpo => (py_cons (py_if (pxt_cmp (eq_ok hr.units) eq_s (px_name 0) px_int (nomark _))
  (py_one (py_ret (px_makeS M_Hole___init__ (fun σ => passAt tk σ) (hr.mono (by decide)) rfl T.m_Hole (pxa_cons (px_name 1) pxa_nil))))
  py_nil)
  (py_cons (py_if (pxt_cmp (eq_ok hr.units) eq_s (px_name 0) px_int (nomark _))
  (py_one (py_ret (px_makeS M_Hole___init__ (fun σ => passAt tk σ) (hr.mono (by decide)) rfl T.m_Hole (pxa_cons (px_name 1) (pxa_cons (px_name 2) pxa_nil)))))
  py_nil)
  (py_one (py_ret (px_if (pxt_cmp (eq_ok hr.units) eq_s (px_name 0) px_int (nomark _)) (px_makeS0 M_Hole___init__ (fun σ => passAt tk σ) (hr.mono (by decide)) rfl T.m_Hole) (px_makeS M_Hole___init__ (fun σ => passAt tk σ) (hr.mono (by decide)) rfl T.m_Hole (pxa_cons (px_name 1) (pxa_cons (px_name 2) (pxa_cons (px_name 1) (pxa_cons (px_name 2) (pxa_cons (px_name 1) pxa_nil)))))))))))) (.cons (C := "InvalidHole") ⟨rfl, rfl, .inl T.m_InvalidHole⟩ (fun a oe cls d pn hz hf => (py_one (py_ret px_str))) .nil)))
end
end Pu
namespace Pu
open PySem PySem.Spec PyProof.Rows L2 Lk Evl StX

open My
def sp__law_spoilt : PSp := fun cells q _ => ∃ d r, cells = [.ow d, .fz r] ∧ isDice d ∧ GRun r ∧ ∀ d' x, isDice d' → big x ≤ 3100 → q x [.ow d', .fz r]
theorem len__law_spoilt : Len 2 sp__law_spoilt := fun cells q eq ⟨d, r, h, _⟩ => by rw [h]; rfl
def w__law_spoilt_6 (G : Gx) : WS := (wRet (wCallP sp__law_one_of (wCons (wName 0) (wCons (wLst (wCons (wName 1) (wCons (wTup (wCons (wName 2) (wCons (wC (.int 3)) (wCons (wC (.int 3)) wNil)))) (wCons (wTup (wCons (wName 2) (wCons (wC (.int 0)) (wCons (wC .non) wNil)))) (wCons (wTup (wCons (wCall (d1 dTupS) (wCons (wCallP sp__law_all_signs wNil) wNil)) (wCons (wC (.int 0)) (wCons (wC (.int 1)) wNil)))) wNil))))) wNil))))
def w__law_spoilt_5 (G : Gx) : WS := (wSeq (wIfS (wB (wOp dEq (wName 5) (wC (.int 3))))
  (wRet (wCallP sp__law_one_of (wCons (wName 0) (wCons (wLst (wCons (wCut (wName 1) wNo (wSome (wC (.int 2)))) (wCons (wOp dAdd (wName 1) (wTup (wCons (wC .non) wNil))) (wCons (wCall (d1 dToLst) (wCons (wName 1) wNil)) (wCons (wTup (wCons (wName 2) (wCons (wName 4) (wCons (wName 3) wNil)))) (wCons (wName 6) wNil)))))) wNil))))
  wNext) (w__law_spoilt_6 G))
def w__law_spoilt_4 (G : Gx) : WS := (wSeq (wIfS (wB (wOp dEq (wName 5) (wC (.int 2))))
  (wRet (wTup (wCons (wName 2) (wCons (wName 3) (wCons (wCallP sp__law_one_of (wCons (wName 0) (wCons (wLst (wCons (wC (.int 0)) (wCons (wC (.int 1)) (wCons (wC (.int 2)) (wCons (wC (.int 3)) (wCons (wC (.int 4)) (wCons (wOp dSub (wName 3) (wC (.int 1))) (wCons (wC (.bl true)) (wCons (wName 6) (wCons (wOp dPow (wC (.int 10)) (wC (.int 40))) wNil)))))))))) wNil))) wNil)))))
  wNext) (w__law_spoilt_5 G))
def w__law_spoilt_3 (G : Gx) : WS := (wSeq (wIfS (wB (wOp dEq (wName 5) (wC (.int 1))))
  (wRet (wTup (wCons (wName 2) (wCons (wCallP sp__law_one_of (wCons (wName 0) (wCons (wLst (wCons (wC (.int 0)) (wCons (wC (.int 1)) (wCons (wC (.int 3)) (wCons (wC (.int 4)) (wCons (wUn dNeg (wC (.int 1))) (wCons (wC (.bl true)) (wCons (wC .non) (wCons (wName 6) (wCons (wC (.str (Str.ofString "1"))) wNil)))))))))) wNil))) (wCons (wName 4) wNil)))))
  wNext) (w__law_spoilt_4 G))
def w__law_spoilt_2 (G : Gx) : WS := (wSeq (wIfS (wB (wOp dEq (wName 5) (wC (.int 0))))
  (wSeq (wAsg [7] (wLst (wCons (wOp dAdd (wName 2) (wTup (wCons (wC (.str (Str.ofString "g"))) wNil))) (wCons (wRevT (wName 2)) (wCons (wTup wNil) (wCons (wCall (d1 dToLst) (wCons (wName 2) wNil)) (wCons (wName 6) (wCons (wMeth "str" (m1 dJoin) (wC (.str (Str.ofString ""))) (wCons (wName 2) wNil)) (wCons (wTup (wCons (wLst (wCons (wC (.str (Str.ofString "a"))) wNil)) wNil)) (wCons (wOp dAdd (wName 2) (wTup (wCons (wLst wNil) wNil))) wNil))))))))) (wgName 7))
  (wRet (wTup (wCons (wCallP sp__law_one_of (wCons (wName 0) (wCons (wName 7) wNil))) (wCons (wName 3) (wCons (wName 4) wNil))))))
  wNext) (w__law_spoilt_3 G))
def w__law_spoilt_1 (G : Gx) : WS := (wSeq (wPar 5 6 (wCons (wCallP sp__law_roll (wCons (wName 0) (wCons (wC (.int 6)) wNil))) (wCons (wCallP sp__law_odd (wCons (wName 0) wNil)) wNil))) (w__law_spoilt_2 G))
/-- reading of _law_spoilt: slots 0:dice 1:run 2:signs 3:low 4:high 5:way 6:odd 7:some, owned dice -/
def w__law_spoilt (G : Gx) : WS := (wSeq (wAsg [2, 3, 4] (wName 1) (wgTup 3 (wgCons (wgName 2) (wgCons (wgName 3) (wgCons (wgName 4) wgNil))))) (w__law_spoilt_1 G))
theorem big_app {a b : List D} {n : Nat} (ha : big (.tup a) ≤ n) (hb : big (.tup b) ≤ n) (hl : a.length + b.length ≤ n) : big (.tup (a ++ b)) ≤ n := by
  rw [big]
  refine Nat.max_le.mpr ⟨by rw [List.length_append]; exact hl, bigs_le fun d hd => ?_⟩
  rcases List.mem_append.mp hd with h | h
  · exact (big_tup ha).2 d h
  · exact (big_tup hb).2 d h
theorem big_perm {a b : List D} {n : Nat} (ha : big (.tup a) ≤ n) (hl : b.length ≤ n) (h : ∀ d ∈ b, d ∈ a) : big (.tup b) ≤ n := by
  rw [big]
  exact Nat.max_le.mpr ⟨hl, bigs_le fun d hd => (big_tup ha).2 d (h d hd)⟩
theorem big_of {ds : List D} {n : Nat} (hl : ds.length ≤ n) (h : ∀ d ∈ ds, big d ≤ n) : big (.tup ds) ≤ n := by
  rw [big]
  exact Nat.max_le.mpr ⟨hl, bigs_le h⟩
theorem big_3 {a b c : D} {n : Nat} (h3 : 3 ≤ n) (ha : big a ≤ n) (hb : big b ≤ n) (hc : big c ≤ n) : big (.tup [a, b, c]) ≤ n := big_of h3 fun d hd => by
  simp only [List.mem_cons, List.not_mem_nil, or_false] at hd
  rcases hd with rfl | rfl | rfl <;> assumption
theorem GSigns.big {xs : List Str} (g : GSigns xs) : Pu.big (.tup (xs.map D.str)) ≤ 15 := big_of (by rw [List.length_map]; exact g.few) fun d hd => by
  obtain ⟨x, hx, rfl⟩ := List.mem_map.mp hd
  have := (sign_small (g.sg x hx)).1
  show x.length ≤ 15
  omega
theorem hi_big {i : Int} {h : D} (g : hiOk i h) : big h = 0 := by
  cases h <;> first | rfl | exact g.elim
theorem join_signs {xs : List Str} (g : GSigns xs) : (xs.map (·.length)).sum + xs.length * (Str.ofString "").length = xs.length := by
  have e : ∀ ys : List Str, (∀ y ∈ ys, signS y = true) → (ys.map (·.length)).sum = ys.length := by
    intro ys
    induction ys with
    | nil => intro _; rfl
    | cons y ys ih =>
      intro h
      rw [List.map_cons, List.sum_cons, ih fun z hz => h z (List.mem_cons_of_mem _ hz), (sign_small (h y List.mem_cons_self)).1, List.length_cons]
      omega
  rw [e xs g.sg, show (Str.ofString "").length = 0 by decide +kernel, Nat.mul_zero, Nat.add_zero]
theorem join_le (s : Str) (ys : List Str) : (Txt.join s ys).length ≤ (ys.map (·.length)).sum + ys.length * s.length := by
  rw [TL.join_eq]
  induction ys with
  | nil => show (0 : Nat) ≤ _; omega
  | cons x ys ih =>
    cases ys with
    | nil =>
      show x.length ≤ _
      simp
    | cons y r =>
      show (x ++ s ++ Str.join s (y :: r)).length ≤ _
      rw [len_app, len_app]
      simp only [List.map_cons, List.sum_cons, List.length_cons, Nat.add_mul, Nat.one_mul] at ih ⊢
      omega
theorem all_sigs : (Str.ofString "#$0123:_abcdefg").cps.toList.map (fun c => D.str (sgn c)) = sigs.map fun c => D.str (sgn c) := rfl
theorem pure__law_spoilt (G : Gx) : Pure false 2 8 sp__law_spoilt (w__law_spoilt G) := by
  intro cells q eq hl hp
  obtain ⟨d, r, rfl, hd, ⟨xs, i, h, rfl, gs, i0, i3, gh⟩, k⟩ := hp
  have b1 := gs.big
  have few := gs.few
  have bh := hi_big gh
  have c40 : CPowB 10 40 := ⟨by decide, by decide⟩
  have B3 : ∀ {a b c : D}, big a ≤ 3100 → big b ≤ 3100 → big c ≤ 3100 → big (.tup [a, b, c]) ≤ 3100 := fun ha hb hc => big_3 (by decide) ha hb hc
  have bS : big (.tup (xs.map D.str)) ≤ 3100 := Nat.le_trans b1 (by decide)
  have bH : big h ≤ 3100 := by rw [bh]; decide
  have bI : ∀ j : Int, big (.int j) ≤ 3100 := fun j => by rw [big]; decide
  have bR : big (.tup [.tup (xs.map D.str), .int i, h]) ≤ 3100 := B3 bS (bI i) bH
  refine ⟨npl rfl, rfl, rfl, nd1, d, 6, rfl, hd, by decide, by decide, fun d1 w hd1 w0 w6 => ⟨nd1, d1, rfl, hd1, fun d2 x hd2 hx => ⟨np rfl, np rfl, ?_⟩⟩⟩
  have bx : big x ≤ 3100 := Nat.le_trans hx (by decide)
  have lx : (xs.map D.str).length ≤ 15 := by rw [List.length_map]; exact few
  have sz : ∀ n, n ≤ 1000 → n ≤ sizeLine := fun n h => Nat.le_trans h (Nat.le_of_ble_eq_true (rfl : Nat.ble 1000 sizeLine = true))
  show w__law_spoilt_2 G (endsP false [.ow d, .fz (.tup [.tup (xs.map D.str), .int i, h])] q fun _ _ _ _ => False) [.ow d2, .fz (.tup [.tup (xs.map D.str), .int i, h]), .fz (.tup (xs.map D.str)), .fz (.int i), .fz h, .fz (.int w), .fz x, .un]
  refine ite2 (fun g0 => ?_) (fun g0 => ite2 (fun g1 => ?_) (fun g1 => ite2 (fun g2 => ?_) (fun g2 => ite2 (fun g3 => ?_) (fun g3 => ?_))))
  · refine ⟨lenOk, sz _ (by simp; omega), lenOk, rfl, ⟨?_⟩⟩
    simp only [allS, optK]
    refine ⟨by rw [join_signs gs]; omega, lenOk, lenOk, lenOk, lenOk, sz _ (by simp; omega), lenOk, npl rfl, ?_⟩
    refine ⟨nd1, d2, _, _, _, rfl, hd2, .inl rfl, rfl, by simp, lenOk, fun d3 y hd3 hy => ⟨lenOk, rfl, k d3 _ hd3 (B3 ?_ (bI i) bH)⟩⟩
    simp only [List.mem_cons, List.not_mem_nil, or_false] at hy
    rcases hy with rfl | rfl | rfl | rfl | rfl | rfl | rfl | rfl
    · exact big_app bS (by decide +kernel) (by simp; omega)
    · exact big_perm bS (by simp; omega) fun d hd => List.mem_reverse.mp hd
    · decide
    · exact bS
    · exact bx
    · have := join_le (Str.ofString "") xs
      rw [join_signs gs] at this
      show (Txt.join (Str.ofString "") xs).length ≤ 3100
      omega
    · decide +kernel
    · exact big_app bS (by decide +kernel) (by simp; omega)
  · refine ⟨lenOk, nd1, d2, _, _, _, rfl, hd2, .inl rfl, rfl, by simp, lenOk, fun d3 y hd3 hy => ⟨lenOk, rfl, k d3 _ hd3 (B3 bS ?_ bH)⟩⟩
    simp only [List.mem_cons, List.not_mem_nil, or_false] at hy
    rcases hy with rfl | rfl | rfl | rfl | rfl | rfl | rfl | rfl | rfl <;> first | exact bx | decide +kernel
  · refine ⟨c40, lenOk, nd1, d2, _, _, _, rfl, hd2, .inl rfl, rfl, by simp, lenOk, fun d3 y hd3 hy => ⟨lenOk, rfl, k d3 _ hd3 (B3 bS (bI i) ?_)⟩⟩
    simp only [List.mem_cons, List.not_mem_nil, or_false] at hy
    rcases hy with rfl | rfl | rfl | rfl | rfl | rfl | rfl | rfl | rfl <;> first | exact bx | exact bI _ | decide +kernel
  · refine ⟨lenOk, Nat.le_of_ble_eq_true rfl, lenOk, lenOk, nd1, d2, _, _, _, rfl, hd2, .inl rfl, rfl, by simp, lenOk, fun d3 y hd3 hy => ⟨rfl, k d3 _ hd3 ?_⟩⟩
    simp only [List.mem_cons, List.not_mem_nil, or_false] at hy
    rcases hy with rfl | rfl | rfl | rfl | rfl
    · exact big_of (Nat.le_of_ble_eq_true rfl) fun d hd => (big_tup bR).2 d (List.mem_of_mem_drop (List.mem_of_mem_take hd))
    · exact big_app bR (by decide +kernel) (Nat.le_of_ble_eq_true rfl)
    · exact bR
    · exact B3 bS bH (bI i)
    · exact bx
  · refine ⟨lenOk, lenOk, nd0, rfl, lenOk, lenOk, lenOk, nd1, d2, _, _, _, rfl, hd2, .inl rfl, rfl, by simp, lenOk, fun d3 y hd3 hy => ⟨rfl, k d3 _ hd3 ?_⟩⟩
    simp only [List.mem_cons, List.not_mem_nil, or_false] at hy
    rcases hy with rfl | rfl | rfl | rfl
    · exact bR
    · exact B3 bS (bI _) (bI _)
    · exact B3 bS (bI _) (by decide)
    · decide +kernel
section
variable {G : Gx} {P : Program} {wd : World} {mg : Str → Option Value} {base : Heap}
theorem ok__law_spoilt (T : Tx G wd mg) : PFnK G P wd mg base CX0 4 "_law_spoilt" 2 false sp__law_spoilt := by
  have G__law_one_of := ok__law_one_of (P := P) (wd := wd) (base := base) T
  have G__law_roll := ok__law_roll (P := P) (wd := wd) (base := base) T
  have G__law_odd := ok__law_odd (P := P) (wd := wd) (base := base) T
  have G__law_all_signs := ok__law_all_signs (P := P) (wd := wd) (base := base) T
  refine ⟨⟨T.a__law_spoilt, T.d__law_spoilt, ps__law_spoilt, fnPk T.F__law_spoilt sc__law_spoilt (by decide) (w := w__law_spoilt G) (fun cdv A outer s H E hr => ?_) (pure__law_spoilt G), T.m__law_spoilt, T.F__law_spoilt.kp, T.b__law_spoilt⟩, len__law_spoilt⟩
  exact (py_cons (py_asg (is := [2, 3, 4]) (px_name 1) (pxg_tup rfl (pxgs_cons (pxg_name 2 sc__law_spoilt.nd rfl (Or.inl rfl)) (pxgs_cons (pxg_name 3 sc__law_spoilt.nd rfl (Or.inl rfl)) (pxgs_cons (pxg_name 4 sc__law_spoilt.nd rfl (Or.inl rfl)) pxgs_nil)))))
  (py_cons (py_par 5 6 rfl sc__law_spoilt.nd rfl rfl (by decide) rfl rfl (pxa_cons (px_callPk G__law_roll (hr.mono (by decide)) rfl (pxa_cons (px_name 0) (pxa_cons px_int pxa_nil))) (pxa_cons (px_callPk G__law_odd (hr.mono (by decide)) rfl (pxa_cons (px_name 0) pxa_nil)) pxa_nil)))
  (py_cons (py_if (pxt_cmp (eq_ok hr.units) eq_s (px_name 5) px_int (nomark _))
  (py_cons (py_set 7 sc__law_spoilt.nd rfl (Or.inl rfl) (px_lst (pxa_cons (px_op add_ok add_s (px_name 2) (px_tup (pxa_cons px_str pxa_nil))) (pxa_cons (px_revT (px_name 2)) (pxa_cons (px_tup pxa_nil) (pxa_cons (px_callT (toLst_ok rfl) toLst_s rfl T.n_list (by decide +kernel) (pxa_cons (px_name 2) pxa_nil)) (pxa_cons (px_name 6) (pxa_cons (px_meth PySem.F.plainAttrs_str PySem.F.slot_str_join PySem.F.type_str_join (fun M H v d => tyD_str) joinK join_s px_str (pxa_cons (px_name 2) pxa_nil)) (pxa_cons (px_tup (pxa_cons (px_lst (pxa_cons px_str pxa_nil)) pxa_nil)) (pxa_cons (px_op add_ok add_s (px_name 2) (px_tup (pxa_cons (px_lst pxa_nil) pxa_nil))) pxa_nil))))))))))
  (py_one (py_ret (px_tup (pxa_cons (px_callPk G__law_one_of (hr.mono (by decide)) rfl (pxa_cons (px_name 0) (pxa_cons (px_name 7) pxa_nil))) (pxa_cons (px_name 3) (pxa_cons (px_name 4) pxa_nil)))))))
  py_nil)
  (py_cons (py_if (pxt_cmp (eq_ok hr.units) eq_s (px_name 5) px_int (nomark _))
  (py_one (py_ret (px_tup (pxa_cons (px_name 2) (pxa_cons (px_callPk G__law_one_of (hr.mono (by decide)) rfl (pxa_cons (px_name 0) (pxa_cons (px_lst (pxa_cons px_int (pxa_cons px_int (pxa_cons px_int (pxa_cons px_int (pxa_cons (px_un un_neg neg_s px_int) (pxa_cons px_bl (pxa_cons px_non (pxa_cons (px_name 6) (pxa_cons px_str pxa_nil)))))))))) pxa_nil))) (pxa_cons (px_name 4) pxa_nil))))))
  py_nil)
  (py_cons (py_if (pxt_cmp (eq_ok hr.units) eq_s (px_name 5) px_int (nomark _))
  (py_one (py_ret (px_tup (pxa_cons (px_name 2) (pxa_cons (px_name 3) (pxa_cons (px_callPk G__law_one_of (hr.mono (by decide)) rfl (pxa_cons (px_name 0) (pxa_cons (px_lst (pxa_cons px_int (pxa_cons px_int (pxa_cons px_int (pxa_cons px_int (pxa_cons px_int (pxa_cons (px_op sub_ok sub_s (px_name 3) px_int) (pxa_cons px_bl (pxa_cons (px_name 6) (pxa_cons (px_op pow_ok pow_s px_int px_int) pxa_nil)))))))))) pxa_nil))) pxa_nil))))))
  py_nil)
  (py_cons (py_if (pxt_cmp (eq_ok hr.units) eq_s (px_name 5) px_int (nomark _))
  (py_one (py_ret (px_callPk G__law_one_of (hr.mono (by decide)) rfl (pxa_cons (px_name 0) (pxa_cons (px_lst (pxa_cons (px_cut (px_name 1) pxo_none (pxo_some px_int)) (pxa_cons (px_op add_ok add_s (px_name 1) (px_tup (pxa_cons px_non pxa_nil))) (pxa_cons (px_callT (toLst_ok rfl) toLst_s rfl T.n_list (by decide +kernel) (pxa_cons (px_name 1) pxa_nil)) (pxa_cons (px_tup (pxa_cons (px_name 2) (pxa_cons (px_name 4) (pxa_cons (px_name 3) pxa_nil)))) (pxa_cons (px_name 6) pxa_nil)))))) pxa_nil)))))
  py_nil)
  (py_one (py_ret (px_callPk G__law_one_of (hr.mono (by decide)) rfl (pxa_cons (px_name 0) (pxa_cons (px_lst (pxa_cons (px_name 1) (pxa_cons (px_tup (pxa_cons (px_name 2) (pxa_cons px_int (pxa_cons px_int pxa_nil)))) (pxa_cons (px_tup (pxa_cons (px_name 2) (pxa_cons px_int (pxa_cons px_non pxa_nil)))) (pxa_cons (px_tup (pxa_cons (px_callT (LkU.call_tup_str rfl) tupS_s rfl T.n_tuple (by decide +kernel) (pxa_cons (px_callPk0 G__law_all_signs (hr.mono (by decide)) rfl) pxa_nil)) (pxa_cons px_int (pxa_cons px_int pxa_nil)))) pxa_nil))))) pxa_nil)))))))))))
end
end Pu
namespace Pu
open PySem PySem.Spec PyProof.Rows L2 Lk Evl StX

open My
/-! ### data that is compared and shown -/
structure GoodP (w n : Nat) (p : PyData) : Prop where
  lay : p.canLay0 = true
  dep : p.depth ≤ n
  sho : p.showable = true
  ish : p.intsShort 13 = true
  nod : p.hasDict = false
  wei : p.weight ≤ w
theorem GoodP.mono {w n w' n' : Nat} {p : PyData} (g : GoodP w n p) (hw : w ≤ w') (hn : n ≤ n') : GoodP w' n' p := ⟨g.lay, Nat.le_trans g.dep hn, g.sho, g.ish, g.nod, Nat.le_trans g.wei hw⟩
theorem good_all {w n : Nat} : ∀ {ps : List PyData}, (∀ p ∈ ps, GoodP w n p) → PyData.canLayAll0 ps = true ∧ PyData.depthAll ps ≤ n ∧ PyData.showableAll ps = true ∧ PyData.intsShortAll 13 ps = true ∧ PyData.hasDictAll ps = false ∧ PyData.weightAll ps ≤ ps.length * (w + 1)
  | [], _ => ⟨by simp only [PyData.canLayAll0], by simp only [PyData.depthAll]; omega, by simp only [PyData.showableAll], by simp only [PyData.intsShortAll], by simp only [PyData.hasDictAll], by simp only [PyData.weightAll]; omega⟩
  | p :: ps, h => by
    obtain ⟨a, b, c, d, e, f⟩ := good_all fun x hx => h x (List.mem_cons_of_mem _ hx)
    have g := h p List.mem_cons_self
    have g1 := g.dep
    have g2 := g.wei
    refine ⟨by simp only [PyData.canLayAll0, a, g.lay, Bool.and_self], by simp only [PyData.depthAll]; omega, by simp only [PyData.showableAll, c, g.sho, Bool.and_self], by simp only [PyData.intsShortAll, d, g.ish, Bool.and_self], by simp only [PyData.hasDictAll, e, g.nod, Bool.or_self], ?_⟩
    simp only [PyData.weightAll, List.length_cons, Nat.add_mul, Nat.one_mul]
    omega
theorem good_tup {w n k : Nat} {ps : List PyData} (h : ∀ p ∈ ps, GoodP w n p) (hk : ps.length ≤ k) : GoodP (k * (w + 1)) (n + 1) (.tuple ps) := by
  obtain ⟨a, b, c, d, e, f⟩ := good_all h
  have : ps.length * (w + 1) ≤ k * (w + 1) := Nat.mul_le_mul_right _ hk
  refine ⟨by simp only [PyData.canLay0]; exact a, by simp only [PyData.depth]; omega, by simp only [PyData.showable]; exact c, by simp only [PyData.intsShort]; exact d, by simp only [PyData.hasDict]; exact e, by simp only [PyData.weight]; omega⟩
def GoodD (w n : Nat) (d : D) : Prop := ∃ p, d.py = some p ∧ GoodP w n p
theorem GoodD.mono {w n w' n' : Nat} {d : D} (g : GoodD w n d) (hw : w ≤ w') (hn : n ≤ n') : GoodD w' n' d := by
  obtain ⟨p, e, g⟩ := g
  exact ⟨p, e, g.mono hw hn⟩
theorem pys_good {w n : Nat} : ∀ {ds : List D}, (∀ d ∈ ds, GoodD w n d) → ∃ ps, D.pys ds = some ps ∧ ps.length = ds.length ∧ ∀ p ∈ ps, GoodP w n p
  | [], _ => ⟨[], rfl, rfl, fun _ h => nomatch h⟩
  | d :: ds, h => by
    obtain ⟨p, e, g⟩ := h d List.mem_cons_self
    obtain ⟨ps, e2, l, gs⟩ := pys_good fun x hx => h x (List.mem_cons_of_mem _ hx)
    refine ⟨p :: ps, by rw [D.pys, e, e2], by rw [List.length_cons, l, List.length_cons], fun x hx => ?_⟩
    rcases List.mem_cons.mp hx with rfl | hx
    · exact g
    · exact gs x hx
theorem goodD_tup {w n k : Nat} {ds : List D} (h : ∀ d ∈ ds, GoodD w n d) (hk : ds.length ≤ k) : GoodD (k * (w + 1)) (n + 1) (.tup ds) := by
  obtain ⟨ps, e, l, gs⟩ := pys_good h
  exact ⟨.tuple ps, (by rw [D.py, e]; rfl), good_tup gs (by omega)⟩
theorem good_int {i : Int} (h0 : 0 ≤ i) (h9 : i ≤ 9) : GoodD 30 1 (.int i) := by
  have : ∀ n : Nat, n < 10 → (PyData.canLay0 (.int n) = true ∧ PyData.depth (.int n) ≤ 1 ∧ PyData.showable (.int n) = true ∧ PyData.intsShort 13 (.int n) = true ∧ PyData.hasDict (.int n) = false ∧ PyData.weight (.int n) ≤ 30) := by decide +kernel
  obtain ⟨n, rfl⟩ : ∃ n : Nat, i = n := ⟨i.toNat, by omega⟩
  obtain ⟨a, b, c, d, e, f⟩ := this n (by omega)
  exact ⟨_, rfl, a, b, c, d, e, f⟩
theorem good_non : GoodD 30 1 .non := ⟨_, rfl, by decide +kernel, by decide +kernel, by decide +kernel, by decide +kernel, by decide +kernel, by decide +kernel⟩
theorem good_str {z : Str} {w : Nat} (h : PyData.strOk z = true) (hw : z.length ≤ w) : GoodD w 0 (.str z) := ⟨_, rfl, by simp only [PyData.canLay0]; exact h, by simp only [PyData.depth]; omega, by simp only [PyData.showable], by simp only [PyData.intsShort], by simp only [PyData.hasDict], by simp only [PyData.weight]; exact hw⟩
theorem GSigns.good {xs : List Str} (g : GSigns xs) : GoodD 30 1 (.tup (xs.map D.str)) :=
  goodD_tup (w := 1) (k := 15) (fun d hd => by
    obtain ⟨x, hx, rfl⟩ := List.mem_map.mp hd
    exact good_str (sign_ok (g.sg x hx)) (by rw [(sign_small (g.sg x hx)).1]; exact Nat.le_refl _)) (by rw [List.length_map]; exact g.few)
theorem GRun.good {r : D} (g : GRun r) : GoodD 93 2 r := by
  obtain ⟨xs, i, h, rfl, gs, i0, i3, gh⟩ := g
  refine goodD_tup (w := 30) (k := 3) (fun d hd => ?_) (Nat.le_of_ble_eq_true rfl)
  simp only [List.mem_cons, List.not_mem_nil, or_false] at hd
  rcases hd with rfl | rfl | rfl
  · exact gs.good
  · exact good_int i0 (by omega)
  · cases d <;> first | exact gh.elim | exact good_non | skip
    rename_i j
    exact good_int (by have := gh.2.1; omega) (by have := gh.2.2; omega)
theorem runs_good {rs : List D} (h : ∀ r ∈ rs, GRun r) (hl : rs.length ≤ 4) : GoodD 376 3 (.tup rs) := goodD_tup (w := 93) (k := 4) (fun d hd => (h d hd).good) hl
theorem GoodP.shaped {w n : Nat} {p : PyData} (g : GoodP w n p) (hn : n ≤ 60) : SeqAt.shaped p = true := by
  show (PyData.canLay0 p && decide (PyData.depth p ≤ 64)) = true
  rw [g.lay, decide_eq_true (by have := g.dep; omega)]; rfl
theorem sizeLine_val : 15728653 ≤ sizeLine := Nat.le_of_ble_eq_true rfl
theorem good_repr {w n : Nat} {d : D} {k : D → Prop} (g : GoodD w n d) (hn : n ≤ 60) (hw : w ≤ 1000000) (hk : ∀ p, d.py = some p → k (.str p.shown)) : dRepr d k := by
  obtain ⟨p, e, g⟩ := g
  refine ⟨?_⟩
  simp only [e, optK]
  refine ⟨g.sho, g.nod, Nat.le_trans g.dep hn, Nat.le_trans (PyProof.Rows.shown_le13 ?_ g.ish) sizeLine_val, hk p e⟩
  show (PyData.canLay0 p && decide (PyData.depth p ≤ 64) && decide (PyData.weight p ≤ 2 ^ 20)) = true
  have h1 := g.dep
  have h2 := g.wei
  have : (2 : Nat) ^ 20 = 1048576 := by decide
  rw [g.lay, decide_eq_true (by omega), decide_eq_true (by omega)]; rfl
/-! ### runs -/
theorem nodup_len {α : Type} [DecidableEq α] : ∀ {l m : List α}, l.Nodup → (∀ x ∈ l, x ∈ m) → l.length ≤ m.length
  | [], m, _, _ => Nat.zero_le _
  | x :: l, m, h, s => by
    obtain ⟨h1, h2⟩ := List.nodup_cons.mp h
    have := nodup_len (m := m.erase x) h2 fun y hy => (List.mem_erase_of_ne (fun z => h1 (by rw [← z]; exact hy))).mpr (s y (List.mem_cons_of_mem _ hy))
    have hx := s x List.mem_cons_self
    have e := List.length_erase_of_mem hx
    have := List.length_pos_of_mem hx
    rw [List.length_cons]
    omega
theorem asc_nodup : ∀ {xs : List Str}, ascS xs = true → xs.Nodup
  | [], _ => List.nodup_nil
  | x :: xs, h => by
    obtain ⟨a, b⟩ := asc_cons.mp h
    exact List.nodup_cons.mpr ⟨fun z => lt_irr (a x z), asc_nodup b⟩
theorem sign_mem {x : Str} (h : signS x = true) : x ∈ sigs.map sgn := by
  unfold signS txtS at h
  rw [Bool.and_eq_true, decide_eq_true_eq, List.all_eq_true] at h
  obtain ⟨h1, h2⟩ := h
  have hl : (tl x).length = 1 := by rw [tl_len]; exact h1
  cases e : tl x with
  | nil => rw [e] at hl; cases hl
  | cons c r =>
    cases r with
    | cons c2 r => rw [e] at hl; simp at hl
    | nil =>
      have hc := of_decide_eq_true (h2 c (by rw [e]; exact List.mem_cons_self))
      refine List.mem_map.mpr ⟨c, hc, ?_⟩
      exact str_of_toList (show (sgn c).cps.toList = x.cps.toList by rw [show x.cps.toList = [c] from e]; rfl)
theorem signs_few {xs : List Str} (sg : ∀ x ∈ xs, signS x = true) (a : ascS xs = true) : xs.length ≤ 15 :=
  Nat.le_trans (nodup_len (asc_nodup a) fun x hx => sign_mem (sg x hx)) (by rw [List.length_map]; decide)
theorem GRun.run {r : D} (g : GRun r) : runD r = true := by
  obtain ⟨xs, i, h, rfl, gs, i0, i3, gh⟩ := g
  rw [run_eq, signs_mk gs.sg, gs.asc, nil_tup, show xs.isEmpty = false by rw [List.isEmpty_eq_false_iff]; exact gs.ne, show lowD (.int i) = some i from if_pos ⟨i0, i3⟩]
  cases h <;> first | exact gh.elim | rfl | skip
  rename_i j
  obtain ⟨a, b, c⟩ := gh
  show (true && (!false && (decide (max i 1 ≤ j) && decide (j ≤ 3)))) = true
  rw [decide_eq_true (by omega), decide_eq_true c]; rfl
theorem run_inv {r : D} (h : runD r = true) : GRun r := by
  unfold runD at h
  split at h
  · rename_i s l u
    rw [Bool.and_eq_true, Bool.and_eq_true] at h
    obtain ⟨h1, h2, h3⟩ := h
    obtain ⟨xs, rfl, sg, a⟩ := signs_inv h1
    rw [nil_tup] at h2
    cases l with
    | int i =>
      by_cases hi : 0 ≤ i ∧ i ≤ 3
      · rw [show lowD (.int i) = some i from if_pos hi] at h3
        refine ⟨xs, i, u, rfl, ⟨sg, a, (fun z => by rw [z] at h2; cases h2), signs_few sg a⟩, hi.1, hi.2, ?_⟩
        cases u <;> first | trivial | (cases h3; done) | skip
        rename_i j
        have h3 : (decide (max i 1 ≤ j) && decide (j ≤ 3)) = true := h3
        rw [Bool.and_eq_true, decide_eq_true_eq, decide_eq_true_eq] at h3
        exact ⟨by omega, by omega, h3.2⟩
      · rw [show lowD (.int i) = none from if_neg hi] at h3; cases h3
    | _ => cases h3
  · cases h
theorem hole_runs {ds : List D} (h : holeB ds = true) : (∀ r ∈ ds, GRun r) ∧ ds.length ≤ 4 := by
  unfold holeB at h
  rw [Bool.and_eq_true, Bool.and_eq_true, decide_eq_true_eq, decide_eq_true_eq, List.all_eq_true] at h
  exact ⟨fun r hr => run_inv (h.2.2 r hr), h.2.1⟩
theorem hole_of {ds : List D} (h1 : 1 ≤ ds.length) (h4 : ds.length ≤ 4) : holeB ds = ds.all runD := by
  unfold holeB
  rw [decide_eq_true h1, decide_eq_true h4]; rfl
theorem GHole.hole {rs : List D} (g : GHole rs) : holeB rs = true := by
  rw [hole_of g.2.1 g.2.2, List.all_eq_true]
  exact fun r hr => (g.1 r hr).run
theorem eq_same {rs : List D} (h : ∀ r ∈ rs, GRun r) (hl : rs.length ≤ 4) {q : D → List Cell → Prop} (hq : q (.bl true) [.fz (hole rs), .fz (hole rs)]) {eq : Str → List Str → List D → List Cell → Prop} : sp_Hole___eq__ [.fz (hole rs), .fz (hole rs)] q eq := by
  obtain ⟨p, e, g⟩ := runs_good h hl
  refine ⟨rs, _, rfl, .inl ⟨rs, p, p, rfl, e, e, g.shaped (by decide), g.shaped (by decide), ?_⟩⟩
  rw [SeqAt.eqv_refl p g.lay]; exact hq
theorem eq_kind {rs : List D} {d : D} {q : D → List Cell → Prop} (ht : d.tyn.isSome = true) (hq : q (.bl false) [.fz (hole rs), .fz d]) {eq : Str → List Str → List D → List Cell → Prop} : sp_Hole___eq__ [.fz (hole rs), .fz d] q eq :=
  ⟨rs, d, rfl, .inr ⟨ht, hq⟩⟩
end Pu
namespace Pu
open PySem PySem.Spec PyProof.Rows L2 Lk Evl StX

open My
def sp__law_right : PSp := fun cells q _ => ∃ d, cells = [.ow d] ∧ isDice d ∧ ∀ d', isDice d' → q (.bl true) [.ow d']
theorem len__law_right : Len 1 sp__law_right := fun cells q eq ⟨d, h, _⟩ => by rw [h]; rfl
def w__law_right_16 (G : Gx) : WS := (wRet (wEqI "Hole" sp_Hole___eq__ (wV (nLc [13] (wRng1 (wCons (wC (.int 4)) wNil)) (wgName 13) wYes (wCallP sp__law_told_alone (wCons (wName 13) (wCons (wName 10) (wCons (wName 11) wNil)))))) (wOp dAdd (wName 12) (wOp dMul (wLst (wCons (wC (.str (Str.ofString "no hole"))) wNil)) (wC (.int 2))))))
def w__law_right_15 (G : Gx) : WS := (wSeq (wIfS (wTru (wCallP sp__law_is_run (wCons (wName 10) wNil)))
  (wAsg [12] (wLst (wCons (wCMeth "Hole" sp_Hole_of (wC (.cls "Hole")) (wCons (wTup (wCons (wName 10) wNil)) wNil)) (wCons (wCMeth "Hole" sp_Hole_of (wC (.cls "Hole")) (wCons (wTup (wCons (wName 10) (wCons (wName 11) wNil))) wNil)) wNil))) (wgName 12))
  wNext) (w__law_right_16 G))
def w__law_right_14 (G : Gx) : WS := (wSeq (wAsg [12] (wOp dMul (wLst (wCons (wC (.str (Str.ofString "no hole"))) wNil)) (wC (.int 2))) (wgName 12)) (w__law_right_15 G))
def w__law_right_13 (G : Gx) : WS := (wSeq (wAsg [10, 11] (wTup (wCons (wCallP sp__law_spoilt (wCons (wName 0) (wCons (wOp dIx (wName 2) (wC (.int 0))) wNil))) (wCons (wOp dIx (wName 2) (wUn dNeg (wC (.int 1)))) wNil))) (wgTup 2 (wgCons (wgName 10) (wgCons (wgName 11) wgNil)))) (w__law_right_14 G))
def w__law_right_12 (G : Gx) : WS := (wSeq (wIfS (wB (wCmpO "Hole" sp_Hole___eq__ true dNe (wCallP sp__law_told (wCons (wCallP sp__law_one_of (wCons (wName 0) (wCons (wLst (wCons (wTup wNil) (wCons (wCall (d1 dToLst) (wCons (wName 2) wNil)) (wCons (wOp dIx (wName 2) (wC (.int 0))) (wCons (wC .non) (wCons (wTup (wCons (wName 2) wNil)) (wCons (wOp dMul (wName 2) (wC (.int 5))) (wCons (wC (.str (Str.ofString "a"))) (wCons (wName 4) wNil))))))))) wNil))) wNil)) (wC (.str (Str.ofString "no hole")))))
  (wRet (wC (.bl false)))
  wNext) (w__law_right_13 G))
def w__law_right_11 (G : Gx) : WS := (wSeq (wIfS (wAndT (wB (wCmpO "Hole" sp_Hole___eq__ true dNe (wName 9) (wC (.str (Str.ofString "no hole"))))) (wB (wOp dNe (wCall (d1 dRepr) (wCons (wFld "Hole" ["own_runs"] 0 (wName 9)) wNil)) (wCall (d1 dRepr) (wCons (wName 8) wNil)))))
  (wRet (wC (.bl false)))
  wNext) (w__law_right_12 G))
def w__law_right_10 (G : Gx) : WS := (wSeq (wIfS (wB (wOp dNe (wCmpO "Hole" sp_Hole___eq__ true dNe (wName 9) (wC (.str (Str.ofString "no hole")))) (wOp dEq0 (wV (nLc [14] (wItems (wName 8)) (wgName 14) (wNotT (wTru (wCallP sp__law_is_run (wCons (wName 14) wNil)))) (wName 14))) (wLst wNil))))
  (wRet (wC (.bl false)))
  wNext) (w__law_right_11 G))
def w__law_right_9 (G : Gx) : WS := (wSeq (wAsg [9] (wCallP sp__law_told (wCons (wName 8) wNil)) (wgName 9)) (w__law_right_10 G))
def w__law_right_8 (G : Gx) : WS := (wSeq (wAsg [8] (wOp dAdd (wOp dAdd (wCut (wName 2) wNo (wSome (wName 7))) (wTup (wCons (wCallP sp__law_spoilt (wCons (wName 0) (wCons (wOp dIx (wName 2) (wName 7)) wNil))) wNil))) (wCut (wName 2) (wSome (wOp dAdd (wName 7) (wC (.int 1)))) wNo)) (wgName 8)) (w__law_right_9 G))
def w__law_right_7 (G : Gx) : WS := (wSeq (wAsg [7] (wCallP sp__law_roll (wCons (wName 0) (wCons (wCall (d1 dLen) (wCons (wName 2) wNil)) wNil))) (wgName 7)) (w__law_right_8 G))
def w__law_right_6 (G : Gx) : WS := (wSeq (wIfS (wB (wOp dNe (wCmpO "Hole" sp_Hole___eq__ false dEq (wName 4) (wCMeth "Hole" sp_Hole_of (wC (.cls "Hole")) (wCons (wName 3) wNil))) (wOp dEq (wName 2) (wName 3))))
  (wRet (wC (.bl false)))
  wNext) (w__law_right_7 G))
def w__law_right_5 (G : Gx) : WS := (wSeq (wIfS (wOrT (wB (wOp dNe (wCallO "Hole" sp_Hole___str__ okStr (wCons (wName 4) wNil)) (wMeth "str" (m1 dJoin) (wC (.str (Str.ofString ""))) (wCons (wName 6) wNil)))) (wOrT (wB (wCmpO "Hole" sp_Hole___eq__ true dNe (wName 4) (wName 5))) (wOrT (wNotT (wB (wCmpO "Hole" sp_Hole___eq__ false dEq (wName 4) (wName 5)))) (wOrT (wB (wCmpO "Hole" sp_Hole___eq__ false dEq (wName 4) (wName 2))) (wB (wCmpO "Hole" sp_Hole___eq__ false dEq (wName 4) (wCallP sp__law_odd (wCons (wName 0) wNil))))))))
  (wRet (wC (.bl false)))
  wNext) (w__law_right_6 G))
def w__law_right_4 (G : Gx) : WS := (wSeq (wAsg [6] (wLst (wCons (wC (.str (Str.ofString "hole of "))) (wCons (wCall (d1 dToStr) (wCons (wCall (d1 dLen) (wCons (wName 2) wNil)) wNil)) (wCons (wC (.str (Str.ofString " runs"))) wNil)))) (wgName 6)) (w__law_right_5 G))
def w__law_right_3 (G : Gx) : WS := (wSeq (wIfS (wOrT (wB (wCmpO "Hole" sp_Hole___eq__ false dEq (wName 4) (wC (.str (Str.ofString "no hole"))))) (wOrT (wB (wOp dNe (wCall (d1 dRepr) (wCons (wFld "Hole" ["own_runs"] 0 (wName 4)) wNil)) (wCall (d1 dRepr) (wCons (wName 2) wNil)))) (wB (wOp dNe (wCallO "Hole" sp_Hole___len__ okLen (wCons (wName 4) wNil)) (wCall (d1 dLen) (wCons (wName 2) wNil))))))
  (wRet (wC (.bl false)))
  wNext) (w__law_right_4 G))
def w__law_right_2 (G : Gx) : WS := (wSeq (wPar 4 5 (wCons (wCallP sp__law_told (wCons (wName 2) wNil)) (wCons (wCMeth "Hole" sp_Hole_of (wC (.cls "Hole")) (wCons (wName 2) wNil)) wNil))) (w__law_right_3 G))
def w__law_right_1 (G : Gx) : WS := (wSeq (wPar 2 3 (wCons (wCallP sp__law_hole (wCons (wName 0) (wCons (wName 1) wNil))) (wCons (wCallP sp__law_hole (wCons (wName 0) (wCons (wName 1) wNil))) wNil))) (w__law_right_2 G))
/-- reading of _law_right: slots 0:dice 1:signs 2:runs 3:other 4:made 5:same 6:words 7:at 8:spoilt 9:told 10:one 11:two 12:due 13:way 14:run, owned dice -/
def w__law_right (G : Gx) : WS := (wSeq (wAsg [1] (wCallP sp__law_signs (wCons (wName 0) (wCons (wC (.int 3)) wNil))) (wgName 1)) (w__law_right_1 G))
theorem run_big {r : D} (g : GRun r) : big r ≤ 15 := by
  obtain ⟨xs, i, h, rfl, gs, i0, i3, gh⟩ := g
  exact big_3 (by decide) gs.big (by rw [big]; decide) (by rw [hi_big gh]; decide)
theorem runs_big {rs : List D} (h : ∀ r ∈ rs, GRun r) (hl : rs.length ≤ 4) : big (.tup rs) ≤ 15 := big_of (by omega) fun d hd => run_big (h d hd)
theorem run_not {r : D} (g : GRun r) : ofB r = false := by
  obtain ⟨xs, i, h, rfl, _⟩ := g
  show holeB _ = false
  unfold holeB
  rw [show ([.tup (xs.map D.str), .int i, h] : List D).all runD = false by
    rw [List.all_cons, List.all_cons, show runD (.int i) = false from rfl, Bool.false_and, Bool.and_false], Bool.and_false, Bool.and_false]
theorem tup_not {rs : List D} (h : ∀ r ∈ rs, GRun r) : ofB (.tup [.tup rs]) = false := by
  show holeB _ = false
  have e : runD (.tup rs) = false := by
    cases hr : runD (.tup rs) with
    | false => rfl
    | true =>
      obtain ⟨xs, i, u, e, _⟩ := run_inv hr
      cases e
      obtain ⟨ys, j, v, e2, _⟩ := h (.int i) (by simp)
      cases e2
  rw [hole_of (Nat.le_refl _) (Nat.le_of_ble_eq_true rfl), List.all_cons, e, Bool.false_and]
theorem cut_from {α : Type} (xs : List α) (n : Nat) : cutA xs (some (n : Int)) none = xs.drop n := by
  have h : ¬ ((n : Int) < 0) := by omega
  unfold cutA HT.sIx
  simp only [h, if_false, Int.toNat_natCast]
  by_cases hn : n ≤ xs.length
  · rw [Nat.min_eq_left hn, List.take_of_length_le (by rw [List.length_drop]; omega)]
  · rw [Nat.min_eq_right (by omega), List.drop_of_length_le (Nat.le_refl _), List.drop_of_length_le (by omega), List.take_nil]
/-- a told hole, or that there is none -/
def okT (d : D) : Prop := d = noH ∨ ∃ rs, d = hole rs ∧ (∀ r ∈ rs, GRun r) ∧ rs.length ≤ 4
theorem told_ok (d : D) : okT (toldD d) := by
  cases d <;> first | exact .inl rfl | skip
  rename_i ds
  cases h : holeB ds with
  | true => exact .inr ⟨ds, told_good h, (hole_runs h).1, (hole_runs h).2⟩
  | false => exact .inl (told_bad h)
theorem eqI_told : ∀ {ds : List D}, (∀ d ∈ ds, okT d) → EqI "Hole" sp_Hole___eq__ ds ds
  | [], _ => trivial
  | d :: ds, h => by
    have ih := eqI_told fun x hx => h x (List.mem_cons_of_mem _ hx)
    rcases h d List.mem_cons_self with rfl | ⟨rs, rfl, hr, hl⟩
    · exact ⟨rfl, ih⟩
    · exact ⟨⟨rfl, rfl, eq_same hr hl rfl⟩, ih⟩
theorem big_ok {d : D} {n : Nat} (h : big d ≤ n) (hn : n ≤ 900000) : bigO d := .inl (by omega)
section
variable {G : Gx} {q : D → List Cell → Prop} {d : D}
theorem r16 (k : ∀ d', isDice d' → q (.bl true) [.ow d']) {d0 : D} {c1 c2 c3 c4 c5 c6 c7 c8 c9 : Cell} {one two : D} (hd : isDice d0) (h1 : big one ≤ 900000) (h2 : big two ≤ 900000) :
    w__law_right_16 G (endsP false [Cell.ow d] q fun _ _ _ _ => False) [.ow d0, c1, c2, c3, c4, c5, c6, c7, c8, c9, .fz one, .fz two, .fz (.lst [toldD (.tup [one]), toldD (.tup [one, two])]), .un, .un] := by
  refine ⟨⟨by decide, by decide⟩, lc_m (xs := List.range 4) (g := fun i => D.int (0 + (i : Nat))) (fun i => aloneD (0 + (i : Nat)) one two) lenOk (fun i K1 K2 hi kk => ?_) ?_⟩
  · have := List.mem_range.mp hi
    exact ⟨nd0, _, one, two, rfl, by omega, by omega, h1, h2, kk⟩
  · refine ⟨lenOk, (by decide), (by decide), (by decide +kernel), Nat.le_of_ble_eq_true rfl, ?_, rfl, k d0 hd⟩
    show EqI "Hole" sp_Hole___eq__ [toldD (.tup [one]), toldD (.tup [one, two]), noH, noH] [toldD (.tup [one]), toldD (.tup [one, two]), noH, noH]
    refine eqI_told fun x hx => ?_
    simp only [List.mem_cons, List.not_mem_nil, or_false] at hx
    rcases hx with rfl | rfl | rfl | rfl
    · exact told_ok _
    · exact told_ok _
    · exact .inl rfl
    · exact .inl rfl
theorem r15 (k : ∀ d', isDice d' → q (.bl true) [.ow d']) {d0 : D} {c1 c2 c3 c4 c5 c6 c7 c8 c9 : Cell} {one two : D} (hd : isDice d0) (h1 : big one ≤ 3100) (h2 : GRun two) :
    w__law_right_14 G (endsP false [Cell.ow d] q fun _ _ _ _ => False) [.ow d0, c1, c2, c3, c4, c5, c6, c7, c8, c9, .fz one, .fz two, .un, .un, .un] := by
  have b1 : big one ≤ 900000 := Nat.le_trans h1 (by decide)
  have b2 : big two ≤ 900000 := Nat.le_trans (run_big h2) (by decide)
  have l1 : ([one] : List D).length ≤ 4 := Nat.le_of_ble_eq_true rfl
  have l2 : ([one, two] : List D).length ≤ 4 := Nat.le_of_ble_eq_true rfl
  have e1 : holeB [one] = runD one := by rw [hole_of (Nat.le_refl _) l1, List.all_cons, List.all_nil, Bool.and_true]
  have e2 : holeB [one, two] = runD one := by rw [hole_of (Nat.le_of_ble_eq_true rfl) l2, List.all_cons, List.all_cons, List.all_nil, Bool.and_true, h2.run, Bool.and_true]
  have t := r16 (G := G) (d := d) k (c1 := c1) (c2 := c2) (c3 := c3) (c4 := c4) (c5 := c5) (c6 := c6) (c7 := c7) (c8 := c8) (c9 := c9) hd b1 b2
  have B1 : big (.tup [one]) ≤ 1000000 := bigs_small (by simpa using b1) (Nat.le_of_ble_eq_true rfl)
  have B2 : big (.tup [one, two]) ≤ 1000000 := bigs_small (by simpa using ⟨b1, b2⟩) (Nat.le_of_ble_eq_true rfl)
  refine ⟨lenOk, (by decide), (by decide), (by decide +kernel), npl rfl, nd0, one, rfl, Nat.le_trans h1 (by decide), ite2 (fun h => ?_) (fun h => ?_)⟩
  · refine ⟨rfl, lenOk, nd0, _, rfl, .inl B1, fun ds e hh => ?_, fun hh => ?_⟩
    · cases e
      refine ⟨rfl, lenOk, nd0, _, rfl, .inl B2, fun ds e hh2 => ?_, fun hh => ?_⟩
      · cases e
        refine ⟨lenOk, npl rfl, ?_⟩
        rw [told_good hh, told_good hh2] at t
        exact t
      · have hh : holeB [one, two] = false := hh
        rw [e2, h] at hh; cases hh
    · have hh : holeB [one] = false := hh
      rw [e1, h] at hh; cases hh
  · rw [told_bad (show ofB (.tup [one]) = false from e1.trans h), told_bad (show ofB (.tup [one, two]) = false from e2.trans h)] at t
    exact t
theorem at_last {α : Type} {l : List α} (h : 1 ≤ l.length) : ∃ x, atI l (-1) = some x ∧ x ∈ l := by
  have e : ixN l.length (-1) = some (l.length - 1) := by
    unfold ixN
    simp; omega
  unfold atI
  rw [e]
  refine ⟨l[l.length - 1], ?_, List.getElem_mem _⟩
  simp
theorem at_nat {α : Type} {l : List α} {n : Nat} (h : n < l.length) : atI l (n : Int) = some l[n] := by
  unfold atI ixN
  rw [if_pos (by omega), if_pos (by omega)]
  simp [h]
theorem r13 (k : ∀ d', isDice d' → q (.bl true) [.ow d']) {d0 : D} {c1 c3 c4 c5 c6 c7 c8 c9 : Cell} {rs : List D} (hd : isDice d0) (g : GHole rs) :
    w__law_right_13 G (endsP false [Cell.ow d] q fun _ _ _ _ => False) [.ow d0, c1, .fz (.tup rs), c3, c4, c5, c6, c7, c8, c9, .un, .un, .un, .un, .un] := by
  obtain ⟨g1, g2, g3⟩ := g
  cases rs with
  | nil => exact absurd g2 (by decide)
  | cons r rs =>
    obtain ⟨l, el, ml⟩ := at_last g2
    refine ⟨r, at_nat (n := 0) (by simp), nd1, d0, r, rfl, hd, g1 r List.mem_cons_self, fun d1 x hd1 hx => ⟨l, el, lenOk, npl rfl, rfl, rfl, ?_⟩⟩
    exact r15 k hd1 hx (g1 l ml)
/-- the runs with another in the place of one -/
def putRun (rs : List D) (n : Nat) (x : D) : List D := rs.take n ++ [x] ++ rs.drop (n + 1)
theorem put_len {rs : List D} {n : Nat} {x : D} (h : n < rs.length) : (putRun rs n x).length = rs.length := by
  unfold putRun
  rw [List.length_append, List.length_append, List.length_take, List.length_drop, List.length_singleton]; omega
theorem put_mem {rs : List D} {n : Nat} {x y : D} (h : y ∈ putRun rs n x) : y ∈ rs ∨ y = x := by
  unfold putRun at h
  rcases List.mem_append.mp h with h | h
  · rcases List.mem_append.mp h with h | h
    · exact .inl (List.mem_of_mem_take h)
    · exact .inr (List.mem_singleton.mp h)
  · exact .inl (List.mem_of_mem_drop h)
theorem no_ne {A B : Prop} (b : B) : if (!decide (Str.ofString "no hole" = Str.ofString "no hole")) = true then A else B := by
  rw [show (!decide (Str.ofString "no hole" = Str.ofString "no hole")) = false by decide +kernel]
  exact b
theorem r12 (k : ∀ d', isDice d' → q (.bl true) [.ow d']) {d0 : D} {c1 c3 c5 c6 c7 c8 c9 : Cell} {rs : List D} (hd : isDice d0) (g : GHole rs) :
    w__law_right_12 G (endsP false [Cell.ow d] q fun _ _ _ _ => False) [.ow d0, c1, .fz (.tup rs), c3, .fz (hole rs), c5, c6, c7, c8, c9, .un, .un, .un, .un, .un] := by
  obtain ⟨g1, g2, g3⟩ := id g
  have rb := runs_big g1 g3
  cases hrs : rs with
  | nil => rw [hrs] at g2; exact absurd g2 (by decide)
  | cons r rs' =>
    rw [← hrs]
    have hr : r ∈ rs := by rw [hrs]; exact List.mem_cons_self
    have e0 : atI rs 0 = some r := by subst hrs; exact at_nat (n := 0) (by simp)
    have gr := g1 r hr
    have fin : ∀ (d1 : D) (y : D), isDice d1 → y ∈ [.tup [], .lst rs, r, .non, .tup [.tup rs], .tup (List.replicate 5 rs).flatten, .str (Str.ofString "a"), hole rs] → bigO y ∧ toldD y = noH := by
      intro d1 y _ hy
      simp only [List.mem_cons, List.not_mem_nil, or_false] at hy
      rcases hy with rfl | rfl | rfl | rfl | rfl | rfl | rfl | rfl
      · exact ⟨.inl (by decide), rfl⟩
      · exact ⟨.inl (show big (.tup rs) ≤ 1000000 by omega), rfl⟩
      · exact ⟨.inl (by have := run_big gr; omega), told_bad (run_not gr)⟩
      · exact ⟨.inl (by decide), rfl⟩
      · exact ⟨.inl (bigs_small (ds := [.tup rs]) (fun d hd => by rw [List.mem_singleton.mp hd]; omega) (Nat.le_of_ble_eq_true rfl)), told_bad (tup_not g1)⟩
      · have l5 : (List.replicate 5 rs).flatten.length = 5 * rs.length := by simp; omega
        refine ⟨.inl (big_of (by omega) fun d hd => ?_), told_bad ?_⟩
        · obtain ⟨l, hl, hd⟩ := List.mem_flatten.mp hd
          rw [(List.mem_replicate.mp hl).2] at hd
          have := run_big (g1 d hd)
          omega
        · show holeB _ = false
          unfold holeB
          rw [show decide ((List.replicate 5 rs).flatten.length ≤ 4) = false from decide_eq_false (by omega), Bool.false_and, Bool.and_false]
      · exact ⟨.inl (by decide +kernel), rfl⟩
      · exact ⟨.inr ⟨_, _, rfl⟩, rfl⟩
    refine ⟨lenOk, r, e0, lenOk, (by rw [hrs]; exact List.cons_ne_nil _ _), (by decide), (by decide), (by omega), lenOk, nd1, d0, _, _, _, rfl, hd, .inl rfl, rfl, by simp, lenOk, fun d1 y hd1 hy => ?_⟩
    obtain ⟨b, e⟩ := fin d1 y hd1 hy
    refine ⟨nd0, y, rfl, b, ?_⟩
    rw [e]
    dsimp only [wC, Src.gets, dEq0, dNe0, dNe, dEq, dEqB, dB]
    exact ite2 (fun h => absurd h (by decide +kernel)) fun _ => r13 k hd1 g
def badR (d : D) : Option D := if runD d = true then none else some d
theorem badR_none {d : D} : (badR d).isNone = runD d := by
  unfold badR
  cases h : runD d <;> rfl
theorem r9 (k : ∀ d', isDice d' → q (.bl true) [.ow d']) {d0 : D} {c1 c3 c5 c6 c7 : Cell} {rs ss : List D} (hd : isDice d0) (g : GHole rs) (s1 : 1 ≤ ss.length) (s4 : ss.length ≤ 4) (sb : ∀ y ∈ ss, big y ≤ 3500) :
    w__law_right_9 G (endsP false [Cell.ow d] q fun _ _ _ _ => False) [.ow d0, c1, .fz (.tup rs), c3, .fz (hole rs), c5, c6, c7, .fz (.tup ss), .un, .un, .un, .un, .un, .un] := by
  have bs : big (.tup ss) ≤ 3500 := big_of (by omega) sb
  refine ⟨nd0, _, rfl, .inl (by omega), npl rfl, ?_⟩
  show w__law_right_10 G (endsP false [Cell.ow d] q fun _ _ _ _ => False) [.ow d0, c1, .fz (.tup rs), c3, .fz (hole rs), c5, c6, c7, .fz (.tup ss), .fz (toldD (.tup ss)), .un, .un, .un, .un, .un]
  have eb : (ss.filterMap badR).isEmpty = ss.all runD := by rw [fo_nil]; simp only [badR_none]
  have ea : ss.all runD = holeB ss := (hole_of s1 s4).symm
  have run1 : ∀ (a : D) (K1 : D → Prop) (K2 : Prop), (∀ y, badR a = some y → K1 y) → (badR a = none → K2) → (if (!runD a) = true then K1 a else K2) := fun a K1 K2 k1 k2 =>
    ite2 (fun h => k1 a (if_neg (by rw [show runD a = false by simpa using h]; exact Bool.false_ne_true))) (fun h => k2 (if_pos (by simpa using h)))
  cases hh : holeB ss with
  | true =>
    obtain ⟨g1, g4⟩ := hole_runs hh
    rw [told_good hh]
    refine ⟨rfl, rfl, ss, _, rfl, .inr ⟨rfl, false, rfl, lc_fo' badR (size_le (by omega)) (fun a K1 K2 ha k1 k2 => ?_) ⟨lenOk, ?_⟩⟩⟩
    · exact ⟨nd0, a, rfl, sb a ha, run1 a _ _ k1 k2⟩
    · dsimp only [wC, Src.gets, dEq0, dNe0, dNe, dEq, dEqB, dB]
      rw [eb, ea, hh]
      refine ite2 (fun h => absurd h (by decide +kernel)) fun _ => ?_
      refine ⟨rfl, rfl, ss, _, rfl, .inr ⟨rfl, false, rfl, rfl, rfl, good_repr (runs_good g1 g4) (by decide) (by decide) fun p e1 => good_repr (runs_good g1 g4) (by decide) (by decide) fun p2 e2 => ?_⟩⟩
      have e := Option.some.inj (e1.symm.trans e2)
      subst e
      refine ite2 (fun h => absurd h (by simp)) fun _ => ?_
      exact r12 k hd g
  | false =>
    rw [told_bad (d := .tup ss) hh]
    refine (?_ : LcOk _ _ _ _ _ ss _)
    refine lc_fo' badR (size_le (by omega)) (fun a K1 K2 ha k1 k2 => ?_) ⟨lenOk, ?_⟩
    · exact ⟨nd0, a, rfl, sb a ha, run1 a _ _ k1 k2⟩
    · dsimp only [wC, Src.gets, dEq0, dNe0, dNe, dEq, dEqB, dB]
      rw [eb, ea, hh]
      refine ite2 (fun h => absurd h (by decide +kernel)) fun _ => ?_
      show w__law_right_11 G (endsP false [Cell.ow d] q fun _ _ _ _ => False) [.ow d0, c1, .fz (.tup rs), c3, .fz (hole rs), c5, c6, c7, .fz (.tup ss), .fz noH, .un, .un, .un, .un, .un]
      exact r12 k hd g
theorem r8 (k : ∀ d', isDice d' → q (.bl true) [.ow d']) {d0 : D} {c1 c3 c5 c6 : Cell} {rs : List D} {n : Nat} (hd : isDice d0) (g : GHole rs) (hn : n < rs.length) :
    w__law_right_8 G (endsP false [Cell.ow d] q fun _ _ _ _ => False) [.ow d0, c1, .fz (.tup rs), c3, .fz (hole rs), c5, c6, .fz (.int (n : Nat)), .un, .un, .un, .un, .un, .un, .un] := by
  obtain ⟨g1, g2, g3⟩ := id g
  have fin : ∀ (d1 x : D), isDice d1 → big x ≤ 3100 → w__law_right_9 G (endsP false [Cell.ow d] q fun _ _ _ _ => False) [.ow d1, c1, .fz (.tup rs), c3, .fz (hole rs), c5, c6, .fz (.int (n : Nat)), .fz (.tup (cutA rs none (some (n : Int)) ++ [x] ++ cutA rs (some ((n : Int) + 1)) none)), .un, .un, .un, .un, .un, .un] := by
    intro d1 x hd1 hx
    have e : cutA rs none (some (n : Int)) ++ [x] ++ cutA rs (some ((n : Int) + 1)) none = putRun rs n x := by
      rw [cut_to, show (n : Int) + 1 = ((n + 1 : Nat) : Int) by omega, cut_from]; rfl
    rw [e]
    have l := put_len (x := x) hn
    refine r9 k hd1 g (by omega) (by omega) fun y hy => ?_
    rcases put_mem hy with h | rfl
    · have := run_big (g1 y h); omega
    · omega
  have l1 : (cutA rs none (some (n : Int))).length ≤ 4 := by rw [cut_to, List.length_take]; omega
  have l2 : (cutA rs (some ((n : Int) + 1)) none).length ≤ 4 := by rw [show (n : Int) + 1 = ((n + 1 : Nat) : Int) by omega, cut_from, List.length_drop]; omega
  exact ⟨_, at_nat hn, nd1, d0, _, rfl, hd, g1 _ (List.getElem_mem hn), fun d1 x hd1 hx => ⟨lenOk, size_le (by rw [List.length_singleton]; omega), size_le (by rw [List.length_append, List.length_singleton]; omega), npl rfl, fin d1 x hd1 hx⟩⟩
theorem r7 (k : ∀ d', isDice d' → q (.bl true) [.ow d']) {d0 : D} {c1 c3 c5 c6 : Cell} {rs : List D} (hd : isDice d0) (g : GHole rs) :
    w__law_right_7 G (endsP false [Cell.ow d] q fun _ _ _ _ => False) [.ow d0, c1, .fz (.tup rs), c3, .fz (hole rs), c5, c6, .un, .un, .un, .un, .un, .un, .un, .un] := by
  have g2 := g.2.1
  have g3 := g.2.2
  have b2 : (rs.length : Int) < 2 ^ 200 := by
    have : (15 : Int) < 2 ^ 200 := by decide
    omega
  refine ⟨nd1, d0, _, rfl, hd, by omega, b2, fun d1 r hd1 r0 r1 => ⟨npl rfl, ?_⟩⟩
  obtain ⟨n, rfl⟩ : ∃ n : Nat, r = n := ⟨r.toNat, by omega⟩
  exact r8 k hd1 g (by omega)
theorem r6 (k : ∀ d', isDice d' → q (.bl true) [.ow d']) {d0 : D} {c1 c5 c6 : Cell} {rs os : List D} (hd : isDice d0) (g : GHole rs) (go : GHole os) :
    w__law_right_6 G (endsP false [Cell.ow d] q fun _ _ _ _ => False) [.ow d0, c1, .fz (.tup rs), .fz (.tup os), .fz (hole rs), c5, c6, .un, .un, .un, .un, .un, .un, .un, .un] := by
  obtain ⟨p, e1, gp⟩ := runs_good g.1 g.2.2
  obtain ⟨r, e2, gr⟩ := runs_good go.1 go.2.2
  have s1 := gp.shaped (by decide)
  have s2 := gr.shaped (by decide)
  have ob := runs_big go.1 go.2.2
  refine ⟨rfl, nd0, _, rfl, .inl (by omega), fun ds e hh => ?_, fun hh => ?_⟩
  · cases e
    refine ⟨rfl, rfl, rs, _, rfl, .inl ⟨os, p, r, rfl, e1, e2, s1, s2, _, rfl, eqD_of e1 e2 s1 s2 ?_⟩⟩
    dsimp only [wC, Src.gets, dEq0, dNe0, dNe, dEq, dEqB, dB]
    refine ite2 (fun h => absurd h (by simp)) fun _ => ?_
    exact r7 k hd g
  · have hh : holeB os = false := hh
    rw [go.hole] at hh; cases hh
end
end Pu
namespace Pu
open PySem PySem.Spec PyProof.Rows L2 Lk Evl StX

open My
section
variable {G : Gx} {q : D → List Cell → Prop} {d : D}
def wordsL (n : Nat) : List D := [.str (Str.ofString "hole of "), .str (toString (n : Int)), .str (Str.ofString " runs")]
theorem holeS_eq : ∀ n : Nat, n ≤ 4 → holeS n = Txt.join (Str.ofString "") [Str.ofString "hole of ", toString (n : Int), Str.ofString " runs"] := by
  have : ∀ n : Nat, n < 5 → holeS n = Txt.join (Str.ofString "") [Str.ofString "hole of ", toString (n : Int), Str.ofString " runs"] := by decide +kernel
  exact fun n h => this n (by omega)
theorem wordsL_len : ∀ n : Nat, n ≤ 4 → (([Str.ofString "hole of ", toString (n : Int), Str.ofString " runs"] : List Str).map (·.length)).sum + 3 * (Str.ofString "").length ≤ 16777216 := by
  have : ∀ n : Nat, n < 5 → (([Str.ofString "hole of ", toString (n : Int), Str.ofString " runs"] : List Str).map (·.length)).sum + 3 * (Str.ofString "").length ≤ 16777216 := by decide +kernel
  exact fun n h => this n (by omega)
theorem r5 (k : ∀ d', isDice d' → q (.bl true) [.ow d']) {d0 : D} {c1 : Cell} {rs os : List D} (hd : isDice d0) (g : GHole rs) (go : GHole os) :
    w__law_right_5 G (endsP false [Cell.ow d] q fun _ _ _ _ => False) [.ow d0, c1, .fz (.tup rs), .fz (.tup os), .fz (hole rs), .fz (hole rs), .fz (.lst (wordsL rs.length)), .un, .un, .un, .un, .un, .un, .un, .un] := by
  obtain ⟨g1, g2, g3⟩ := id g
  refine ⟨rfl, rs, rfl, g3, trivial, rfl, ⟨?_⟩⟩
  refine ⟨wordsL_len _ g3, ?_⟩
  rw [← holeS_eq _ g3]
  dsimp only [wC, Src.gets, dEq0, dNe0, dNe, dEq, dEqB, dB]
  refine ite2 (fun h => absurd h (by simp)) fun _ => ?_
  refine ⟨rfl, rfl, eq_same g1 g3 ⟨true, rfl, rfl, rfl, eq_same g1 g3 ⟨true, rfl, rfl, rfl, eq_kind rfl ⟨false, rfl, nd1, d0, rfl, hd, fun d1 x hd1 hx => ⟨rfl, ?_, eq_kind (big_tyn hx (by decide)) ⟨false, rfl, ?_⟩⟩⟩⟩⟩⟩
  · cases x <;> first | rfl | (exact absurd (show 2000000 ≤ 3000 from hx) (by decide))
  · exact r6 k hd1 g go
theorem r4 (k : ∀ d', isDice d' → q (.bl true) [.ow d']) {d0 : D} {c1 : Cell} {rs os : List D} (hd : isDice d0) (g : GHole rs) (go : GHole os) :
    w__law_right_4 G (endsP false [Cell.ow d] q fun _ _ _ _ => False) [.ow d0, c1, .fz (.tup rs), .fz (.tup os), .fz (hole rs), .fz (hole rs), .un, .un, .un, .un, .un, .un, .un, .un, .un] := by
  have g3 := g.2.2
  have l2 : (rs.length : Int).natAbs.log2 < 1920 := by
    have : ∀ n : Nat, n < 5 → (n : Int).natAbs.log2 < 1920 := by decide +kernel
    exact this _ (by omega)
  exact ⟨l2, lenOk, npl rfl, r5 k hd g go⟩
theorem r3 (k : ∀ d', isDice d' → q (.bl true) [.ow d']) {d0 : D} {c1 : Cell} {rs os : List D} (hd : isDice d0) (g : GHole rs) (go : GHole os) :
    w__law_right_3 G (endsP false [Cell.ow d] q fun _ _ _ _ => False) [.ow d0, c1, .fz (.tup rs), .fz (.tup os), .fz (hole rs), .fz (hole rs), .un, .un, .un, .un, .un, .un, .un, .un, .un] := by
  obtain ⟨g1, g2, g3⟩ := id g
  have b2 : (rs.length : Int) < 2 ^ 63 := by
    have : (15 : Int) < 2 ^ 63 := by decide
    omega
  refine ⟨rfl, rfl, eq_kind rfl ⟨false, rfl, rfl, rfl, good_repr (runs_good g1 g3) (by decide) (by decide) fun p e1 => good_repr (runs_good g1 g3) (by decide) (by decide) fun p2 e2 => ?_⟩⟩
  have e := Option.some.inj (e1.symm.trans e2)
  subst e
  dsimp only [wC, Src.gets, dEq0, dNe0, dNe, dEq, dEqB, dB]
  refine ite2 (fun h => absurd h (by simp)) fun _ => ?_
  refine ⟨rfl, rs, rfl, ⟨by omega, b2⟩, ?_⟩
  have t := r4 k hd g go (G := G) (d := d) (c1 := c1)
  have e0 : (!decide ((rs.length : Int) = rs.length)) = false := by simp
  have fin : ∀ A : Prop, (if (!decide ((rs.length : Int) = rs.length)) = true then A else w__law_right_4 G (endsP false [Cell.ow d] q fun _ _ _ _ => False) [.ow d0, c1, .fz (.tup rs), .fz (.tup os), .fz (hole rs), .fz (hole rs), .un, .un, .un, .un, .un, .un, .un, .un, .un]) := fun A => by rw [e0]; exact t
  exact fin _
theorem r2 (k : ∀ d', isDice d' → q (.bl true) [.ow d']) {d0 : D} {c1 : Cell} {rs os : List D} (hd : isDice d0) (g : GHole rs) (go : GHole os) :
    w__law_right_2 G (endsP false [Cell.ow d] q fun _ _ _ _ => False) [.ow d0, c1, .fz (.tup rs), .fz (.tup os), .un, .un, .un, .un, .un, .un, .un, .un, .un, .un, .un] := by
  have rb := runs_big g.1 g.2.2
  refine ⟨nd0, _, rfl, .inl (by omega), rfl, nd0, _, rfl, .inl (by omega), fun ds e hh => ?_, fun hh => ?_⟩
  · cases e
    refine ⟨np rfl, np rfl, ?_⟩
    rw [told_good hh]
    exact r3 k hd g go
  · have hh : holeB rs = false := hh
    rw [g.hole] at hh; cases hh
end
theorem pure__law_right (G : Gx) : Pure false 1 15 sp__law_right (w__law_right G) := by
  intro cells q eq hl hp
  obtain ⟨d, rfl, hd, k⟩ := hp
  refine ⟨nd1, d, 3, rfl, hd, by decide, by decide, fun d1 xs hd1 gs => ⟨npl rfl, nd1, d1, xs, rfl, hd1, gs, fun d2 rs hd2 g => ⟨nd1, d2, xs, rfl, hd2, gs, fun d3 os hd3 go => ⟨np rfl, np rfl, ?_⟩⟩⟩⟩
  exact r2 k hd3 g go
section
variable {G : Gx} {P : Program} {wd : World} {mg : Str → Option Value} {base : Heap}
theorem ok__law_right (T : Tx G wd mg) : PFn G P wd mg base CX0 9 "_law_right" 1 false sp__law_right := by
  have G__law_signs := (ok__law_signs (P := P) (wd := wd) (base := base) T).g
  have G__law_roll := (ok__law_roll (P := P) (wd := wd) (base := base) T).g
  have G__law_told := (ok__law_told (P := P) (wd := wd) (base := base) T).g
  have M_Hole___eq__ := ok_Hole___eq__ (P := P) (wd := wd) (base := base) T
  have G__law_is_run := (ok__law_is_run (P := P) (wd := wd) (base := base) T).g
  have G__law_hole := (ok__law_hole (P := P) (wd := wd) (base := base) T).g
  have M_Hole_of := ok_Hole_of (P := P) (wd := wd) (base := base) T
  have G__law_spoilt := (ok__law_spoilt (P := P) (wd := wd) (base := base) T).g
  have M_Hole___len__ := ok_Hole___len__ (P := P) (wd := wd) (base := base) T
  have M_Hole___str__ := ok_Hole___str__ (P := P) (wd := wd) (base := base) T
  have G__law_odd := (ok__law_odd (P := P) (wd := wd) (base := base) T).g
  have G__law_one_of := (ok__law_one_of (P := P) (wd := wd) (base := base) T).g
  have G__law_told_alone := (ok__law_told_alone (P := P) (wd := wd) (base := base) T).g
  have M_Hole_runs := ok_Hole_runs (P := P) (wd := wd) (base := base) T
  refine ⟨⟨T.a__law_right, T.d__law_right, ps__law_right, fnP T.F__law_right sc__law_right (by decide) (w := w__law_right G) (fun cdv A outer s H E hga hr => ?_) (pure__law_right G), T.m__law_right, T.F__law_right.kp, T.b__law_right⟩, len__law_right⟩
  exact (py_cons (py_set 1 sc__law_right.nd rfl (Or.inl rfl) (px_callP G__law_signs hga (hr.mono (by decide)) rfl (pxa_cons (px_name 0) (pxa_cons px_int pxa_nil))))
  (py_cons (py_par 2 3 rfl sc__law_right.nd rfl rfl (by decide) rfl rfl (pxa_cons (px_callP G__law_hole hga (hr.mono (by decide)) rfl (pxa_cons (px_name 0) (pxa_cons (px_name 1) pxa_nil))) (pxa_cons (px_callP G__law_hole hga (hr.mono (by decide)) rfl (pxa_cons (px_name 0) (pxa_cons (px_name 1) pxa_nil))) pxa_nil)))
  (py_cons (py_par 4 5 rfl sc__law_right.nd rfl rfl (by decide) rfl rfl (pxa_cons (px_callP G__law_told hga (hr.mono (by decide)) rfl (pxa_cons (px_name 2) pxa_nil)) (pxa_cons (px_cmeth M_Hole_of (fun σ => passAt takes0 σ) (hr.mono (by decide)) (px_gcls rfl T.m_Hole) (pxa_cons (px_name 2) pxa_nil)) pxa_nil)))
  (py_cons (py_if (pxw (pxw_or (pxt_cmpO T.ci_Hole (eqO_ok M_Hole___eq__ T.ci_Hole T.ne_Hole (hr.mono (by decide)) hr.units) eq_s (px_name 4) px_str (nomark _)) (pxw_or (pxt_cmp (ne_ok hr.units) ne_s (px_callB (reprAK hr.units hga) repr_s rfl T.n_repr (by decide +kernel) (pxa_cons (px_prop (N := ["own_runs"]) (i := 0) M_Hole_runs T.ci_Hole rfl rfl (hr.mono (by decide)) (px_name 4)) pxa_nil)) (px_callB (reprAK hr.units hga) repr_s rfl T.n_repr (by decide +kernel) (pxa_cons (px_name 2) pxa_nil)) (nomark _)) (pxw_or1 (pxt_cmp (ne_ok hr.units) ne_s (px_lenO M_Hole___len__ (hr.mono (by decide)) rfl T.n_len (by decide +kernel) (pxa_cons (px_name 4) pxa_nil)) (px_callB len_anyK len_s rfl T.n_len (by decide +kernel) (pxa_cons (px_name 2) pxa_nil)) (nomark _))))))
  (py_one (py_ret px_bl))
  py_nil)
  (py_cons (py_set 6 sc__law_right.nd rfl (Or.inl rfl) (px_lst (pxa_cons px_str (pxa_cons (px_callT call_str_int toStr_s rfl T.n_str (by decide +kernel) (pxa_cons (px_callB len_anyK len_s rfl T.n_len (by decide +kernel) (pxa_cons (px_name 2) pxa_nil)) pxa_nil)) (pxa_cons px_str pxa_nil)))))
  (py_cons (py_if (pxw (pxw_or (pxt_cmp (ne_ok hr.units) ne_s (px_strO M_Hole___str__ (hr.mono (by decide)) rfl T.n_str (by decide +kernel) (pxa_cons (px_name 4) pxa_nil)) (px_meth PySem.F.plainAttrs_str PySem.F.slot_str_join PySem.F.type_str_join (fun M H v d => tyD_str) joinK join_s px_str (pxa_cons (px_name 6) pxa_nil)) (nomark _)) (pxw_or (pxt_cmpO T.ci_Hole (neO_ok M_Hole___eq__ T.ci_Hole T.ne_Hole (hr.mono (by decide)) hr.units) ne_s (px_name 4) (px_name 5) (nomark _)) (pxw_or (pxt_not (pxt_cmpO T.ci_Hole (eqO_ok M_Hole___eq__ T.ci_Hole T.ne_Hole (hr.mono (by decide)) hr.units) eq_s (px_name 4) (px_name 5) (nomark _))) (pxw_or (pxt_cmpO T.ci_Hole (eqO_ok M_Hole___eq__ T.ci_Hole T.ne_Hole (hr.mono (by decide)) hr.units) eq_s (px_name 4) (px_name 2) (nomark _)) (pxw_or1 (pxt_cmpO T.ci_Hole (eqO_ok M_Hole___eq__ T.ci_Hole T.ne_Hole (hr.mono (by decide)) hr.units) eq_s (px_name 4) (px_callP G__law_odd hga (hr.mono (by decide)) rfl (pxa_cons (px_name 0) pxa_nil)) (nomark _))))))))
  (py_one (py_ret px_bl))
  py_nil)
  (py_cons (py_if (pxt_cmp (ne_ok hr.units) ne_s (px_cmpO T.ci_Hole (eqO_ok M_Hole___eq__ T.ci_Hole T.ne_Hole (hr.mono (by decide)) hr.units) eq_s (px_name 4) (px_cmeth M_Hole_of (fun σ => passAt takes0 σ) (hr.mono (by decide)) (px_gcls rfl T.m_Hole) (pxa_cons (px_name 3) pxa_nil)) (nomark _)) (px_cmp (eq_ok hr.units) eq_s (px_name 2) (px_name 3) (nomark _)) (nomark _))
  (py_one (py_ret px_bl))
  py_nil)
  (py_cons (py_set 7 sc__law_right.nd rfl (Or.inl rfl) (px_callP G__law_roll hga (hr.mono (by decide)) rfl (pxa_cons (px_name 0) (pxa_cons (px_callB len_anyK len_s rfl T.n_len (by decide +kernel) (pxa_cons (px_name 2) pxa_nil)) pxa_nil))))
  (py_cons (py_set 8 sc__law_right.nd rfl (Or.inl rfl) (px_op add_ok add_s (px_op add_ok add_s (px_cut (px_name 2) pxo_none (pxo_some (px_name 7))) (px_tup (pxa_cons (px_callP G__law_spoilt hga (hr.mono (by decide)) rfl (pxa_cons (px_name 0) (pxa_cons (px_ix ix_ok ix_s (px_name 2) (px_name 7) (fun _ _ => rfl)) pxa_nil))) pxa_nil))) (px_cut (px_name 2) (pxo_some (px_op add_ok add_s (px_name 7) px_int)) pxo_none)))
  (py_cons (py_set 9 sc__law_right.nd rfl (Or.inl rfl) (px_callP G__law_told hga (hr.mono (by decide)) rfl (pxa_cons (px_name 8) pxa_nil)))
  (py_cons (py_if (pxt_cmp (ne_ok hr.units) ne_s (px_cmpO T.ci_Hole (neO_ok M_Hole___eq__ T.ci_Hole T.ne_Hole (hr.mono (by decide)) hr.units) ne_s (px_name 9) px_str (nomark _)) (px_cmp (eq0_ok hr.units) eq0_s (pxn (pxn_lc (own := [("run", 14)]) (by decide) rfl sc__law_right.nd (pxi_any (px_name 8)) (blkOk_by (N := nm__law_right) (sc := defScope s__law_right) (by decide +kernel)) (fun _ _ _ _ _ => (pxg_name 14 sc__law_right.nd rfl (Or.inl rfl))) (fun _ _ _ _ _ => pxts_one (pxt_not (pxt_val (px_callP G__law_is_run hga (hr.mono (by decide)) rfl (pxa_cons (px_name 14) pxa_nil))))) (fun _ _ _ _ _ => (px_name 14)))) (px_lst pxa_nil) (nomark _)) (nomark _))
  (py_one (py_ret px_bl))
  py_nil)
  (py_cons (py_if (pxw (pxw_and (pxt_cmpO T.ci_Hole (neO_ok M_Hole___eq__ T.ci_Hole T.ne_Hole (hr.mono (by decide)) hr.units) ne_s (px_name 9) px_str (nomark _)) (pxw_and1 (pxt_cmp (ne_ok hr.units) ne_s (px_callB (reprAK hr.units hga) repr_s rfl T.n_repr (by decide +kernel) (pxa_cons (px_prop (N := ["own_runs"]) (i := 0) M_Hole_runs T.ci_Hole rfl rfl (hr.mono (by decide)) (px_name 9)) pxa_nil)) (px_callB (reprAK hr.units hga) repr_s rfl T.n_repr (by decide +kernel) (pxa_cons (px_name 8) pxa_nil)) (nomark _)))))
  (py_one (py_ret px_bl))
  py_nil)
  (py_cons (py_if (pxt_cmpO T.ci_Hole (neO_ok M_Hole___eq__ T.ci_Hole T.ne_Hole (hr.mono (by decide)) hr.units) ne_s (px_callP G__law_told hga (hr.mono (by decide)) rfl (pxa_cons (px_callP G__law_one_of hga (hr.mono (by decide)) rfl (pxa_cons (px_name 0) (pxa_cons (px_lst (pxa_cons (px_tup pxa_nil) (pxa_cons (px_callT (toLst_ok rfl) toLst_s rfl T.n_list (by decide +kernel) (pxa_cons (px_name 2) pxa_nil)) (pxa_cons (px_ix ix_ok ix_s (px_name 2) px_int (fun _ _ => rfl)) (pxa_cons px_non (pxa_cons (px_tup (pxa_cons (px_name 2) pxa_nil)) (pxa_cons (px_op mul_ok mul_s (px_name 2) px_int) (pxa_cons px_str (pxa_cons (px_name 4) pxa_nil))))))))) pxa_nil))) pxa_nil)) px_str (nomark _))
  (py_one (py_ret px_bl))
  py_nil)
  (py_cons (py_asg (is := [10, 11]) (px_tup (pxa_cons (px_callP G__law_spoilt hga (hr.mono (by decide)) rfl (pxa_cons (px_name 0) (pxa_cons (px_ix ix_ok ix_s (px_name 2) px_int (fun _ _ => rfl)) pxa_nil))) (pxa_cons (px_ix ix_ok ix_s (px_name 2) (px_un un_neg neg_s px_int) (fun _ _ => rfl)) pxa_nil))) (pxg_tup rfl (pxgs_cons (pxg_name 10 sc__law_right.nd rfl (Or.inr rfl)) (pxgs_cons (pxg_name 11 sc__law_right.nd rfl (Or.inr rfl)) pxgs_nil))))
  (py_cons (py_set 12 sc__law_right.nd rfl (Or.inl rfl) (px_op mul_ok mul_s (px_lst (pxa_cons px_str pxa_nil)) px_int))
  (py_cons (py_if (pxt_val (px_callP G__law_is_run hga (hr.mono (by decide)) rfl (pxa_cons (px_name 10) pxa_nil)))
  (py_one (py_set 12 sc__law_right.nd rfl (Or.inl rfl) (px_lst (pxa_cons (px_cmeth M_Hole_of (fun σ => passAt takes0 σ) (hr.mono (by decide)) (px_gcls rfl T.m_Hole) (pxa_cons (px_tup (pxa_cons (px_name 10) pxa_nil)) pxa_nil)) (pxa_cons (px_cmeth M_Hole_of (fun σ => passAt takes0 σ) (hr.mono (by decide)) (px_gcls rfl T.m_Hole) (pxa_cons (px_tup (pxa_cons (px_name 10) (pxa_cons (px_name 11) pxa_nil))) pxa_nil)) pxa_nil)))))
  py_nil)
  (py_one (py_ret (px_eqI M_Hole___eq__ T.ci_Hole (hr.mono (by decide)) (pxn (pxn_lc (own := [("way", 13)]) (by decide) rfl sc__law_right.nd (pxi_range1 rfl T.n_range (pxa_cons px_int pxa_nil)) (blkOk_by (N := nm__law_right) (sc := defScope s__law_right) (by decide +kernel)) (fun _ _ _ _ _ => (pxg_name 13 sc__law_right.nd rfl (Or.inl rfl))) (fun _ _ _ _ _ => pxts_nil) (fun _ _ _ _ _ => (px_callP G__law_told_alone hga (hr.mono (by decide)) rfl (pxa_cons (px_name 13) (pxa_cons (px_name 10) (pxa_cons (px_name 11) pxa_nil))))))) (px_op add_ok add_s (px_name 12) (px_op mul_ok mul_s (px_lst (pxa_cons px_str pxa_nil)) px_int)) (nomark _))))))))))))))))))))
end
end Pu
namespace Pu
open PySem PySem.Spec PyProof.Rows L2 Lk Evl StX

open My
def sp_law : PSp := fun cells q _ => ∃ ns : List Int, cells = [.fz (.sl (ns.map D.int))] ∧ ns.length ≤ 1000000 ∧ ∀ cs, q (.bl true) cs
theorem len_law : Len 1 sp_law := fun cells q eq ⟨d, h, _⟩ => by rw [h]; rfl
def w_law_5 (G : Gx) : WS := (wRet (wAndV (wCmpO "Hole" sp_Hole___eq__ true dNe (wMakeS "Hole" sp_Hole___init__ (wCons (wTup (wCons (wTup (wCons (wC (.str (Str.ofString "a"))) wNil)) (wCons (wC (.int 0)) (wCons (wC (.int 1)) wNil)))) (wCons (wTup (wCons (wTup (wCons (wC (.str (Str.ofString "a"))) wNil)) (wCons (wC (.int 0)) (wCons (wC (.int 1)) wNil)))) wNil))) (wMakeS "Hole" sp_Hole___init__ (wCons (wTup (wCons (wTup (wCons (wC (.str (Str.ofString "a"))) wNil)) (wCons (wC (.int 0)) (wCons (wC (.int 2)) wNil)))) wNil))) (wCmpO "Hole" sp_Hole___eq__ true dNe (wCMeth "Hole" sp_Hole_of (wC (.cls "Hole")) (wCons (wTup (wCons (wName 5) wNil)) wNil)) (wTup (wCons (wName 5) wNil)))))
def w_law_4 (G : Gx) : WS := (wSeq (wIfS (wB (wOp dNe (wName 7) (wLst (wCons (wTup (wCons (wName 4) (wCons (wName 5) wNil))) (wCons (wC (.int 2)) (wCons (wC (.str (Str.ofString "hole of 2 runs"))) (wCons (wC (.bl true)) (wCons (wC (.bl false)) wNil))))))))
  (wRet (wC (.bl false)))
  wNext) (w_law_5 G))
def w_law_3 (G : Gx) : WS := (wSeq (wAsg [7] (wLst (wCons (wFld "Hole" ["own_runs"] 0 (wName 6)) (wCons (wCallO "Hole" sp_Hole___len__ okLen (wCons (wName 6) wNil)) (wCons (wCallO "Hole" sp_Hole___str__ okStr (wCons (wName 6) wNil)) (wCons (wCmpO "Hole" sp_Hole___eq__ false dEq (wName 6) (wCMeth "Hole" sp_Hole_of (wC (.cls "Hole")) (wCons (wTup (wCons (wName 4) (wCons (wName 5) wNil))) wNil))) (wCons (wCmpO "Hole" sp_Hole___eq__ false dEq (wName 6) (wMakeS "Hole" sp_Hole___init__ (wCons (wName 5) (wCons (wName 4) wNil)))) wNil)))))) (wgName 7)) (w_law_4 G))
def w_law_2 (G : Gx) : WS := (wSeq (wAsg [6] (wMakeS "Hole" sp_Hole___init__ (wCons (wName 4) (wCons (wName 5) wNil))) (wgName 6)) (w_law_3 G))
def w_law_1 (G : Gx) : WS := (wSeq (wAsg [4, 5] (wTup (wCons (wTup (wCons (wTup (wCons (wC (.str (Str.ofString "0"))) (wCons (wC (.str (Str.ofString "1"))) wNil))) (wCons (wC (.int 1)) (wCons (wC (.int 2)) wNil)))) (wCons (wTup (wCons (wTup (wCons (wC (.str (Str.ofString "a"))) wNil)) (wCons (wC (.int 0)) (wCons (wC .non) wNil)))) wNil))) (wgTup 2 (wgCons (wgName 4) (wgCons (wgName 5) wgNil)))) (w_law_2 G))
/-- reading of law: slots 0:script 1:at 2:dice 3:turn 4:one 5:two 6:code 7:told, owned dice -/
def w_law (G : Gx) : WS := (wSeq (wFor [1] (wRng1 (wCons (wCall (d2 dMax2) (wCons (wC (.int 1)) (wCons (wCall (d2 dMin2) (wCons (wC (.int 6)) (wCons (wCall (d1 dLen) (wCons (wName 0) wNil)) wNil))) wNil))) wNil)) (wgName 1)
  (wSeq (wSetN 2 (nCallP sp__law_dice (wCons (wName 0) (wCons (wName 1) wNil))))
  (wFor [3] (wRng1 (wCons (wC (.int 3)) wNil)) (wgName 3)
  (wIfS (wNotT (wTru (wCallP sp__law_right (wCons (wName 2) wNil))))
  (wRet (wC (.bl false)))
  wNext)))) (w_law_1 G))
def oneD : D := .tup [.tup [.str (Str.ofString "0"), .str (Str.ofString "1")], .int 1, .int 2]
def twoD : D := .tup [.tup [.str (Str.ofString "a")], .int 0, .non]
def thrD (i : Int) : D := .tup [.tup [.str (Str.ofString "a")], .int 0, .int i]
section
variable {G : Gx} {q : D → List Cell → Prop} {e0 : D}
theorem w5 (k : ∀ cs, q (.bl true) cs) {c1 c2 c3 c4 c6 c7 : Cell} : w_law_5 G (endsP false [Cell.fz e0] q fun _ _ _ _ => False) [.fz e0, c1, c2, c3, c4, .fz twoD, c6, c7] := by
  have h1 : holeB [thrD 1, thrD 1] = true := by decide +kernel
  have h2 : holeB [thrD 2] = true := by decide +kernel
  have h3 : holeB [twoD] = true := by decide +kernel
  refine ⟨lenOk, lenOk, lenOk, lenOk, lenOk, [thrD 1, thrD 1], rfl, (by decide +kernel), fun _ => ⟨rfl, rfl, ?_⟩, fun h => absurd (h1.symm.trans h) (by decide)⟩
  refine ⟨lenOk, lenOk, lenOk, [thrD 2], rfl, (by decide +kernel), fun _ => ⟨rfl, rfl, rfl, rfl, ?_⟩, fun h => absurd (h2.symm.trans h) (by decide)⟩
  refine ⟨_, _, rfl, .inl ⟨_, _, _, rfl, rfl, rfl, (by decide +kernel), (by decide +kernel), _, rfl, ?_⟩⟩
  dsimp only [wC, Src.gets, dEq0, dNe0, dNe, dEq, dEqB, dB]
  refine ite2 (fun h => ?_) (fun h => absurd h (by decide +kernel))
  refine ⟨rfl, lenOk, nd0, _, rfl, .inl (by decide +kernel), fun ds e hh => ?_, fun h => absurd (h3.symm.trans h) (by decide)⟩
  cases e
  refine ⟨lenOk, rfl, rfl, eq_kind rfl ⟨false, rfl, rfl, k _⟩⟩
theorem w1 (k : ∀ cs, q (.bl true) cs) {c1 c2 c3 : Cell} : w_law_1 G (endsP false [Cell.fz e0] q fun _ _ _ _ => False) [.fz e0, c1, c2, c3, .un, .un, .un, .un] := by
  have h1 : holeB [oneD, twoD] = true := by decide +kernel
  have h2 : holeB [twoD, oneD] = true := by decide +kernel
  refine ⟨lenOk, lenOk, lenOk, lenOk, lenOk, npl rfl, rfl, rfl, lenOk, [oneD, twoD], rfl, (by decide +kernel), fun _ => ⟨rfl, rfl, npl rfl, ?_⟩, fun h => absurd (h1.symm.trans h) (by decide)⟩
  show w_law_3 G (endsP false [Cell.fz e0] q fun _ _ _ _ => False) [.fz e0, c1, c2, c3, .fz oneD, .fz twoD, .fz (hole [oneD, twoD]), .un]
  refine ⟨rfl, rfl, rfl, _, rfl, ⟨by decide, by decide⟩, rfl, _, rfl, (by decide), trivial, rfl, lenOk, nd0, _, rfl, .inl (by decide +kernel), fun ds e hh => ?_, fun h => absurd (h1.symm.trans h) (by decide)⟩
  cases e
  refine ⟨rfl, rfl, eq_same (hole_runs h1).1 (hole_runs h1).2 ⟨true, rfl, ?_⟩⟩
  refine ⟨lenOk, [twoD, oneD], rfl, (by decide +kernel), fun _ => ⟨rfl, rfl, rfl, rfl, ?_⟩, fun h => absurd (h2.symm.trans h) (by decide)⟩
  refine ⟨_, _, rfl, .inl ⟨_, _, _, rfl, rfl, rfl, (by decide +kernel), (by decide +kernel), _, rfl, ?_⟩⟩
  refine ⟨lenOk, npl rfl, lenOk, lenOk, ?_⟩
  refine eqD_of rfl rfl (by decide +kernel) (by decide +kernel) ?_
  dsimp only [wC, Src.gets, dEq0, dNe0, dNe, dEq, dEqB, dB]
  refine ite2 (fun h => absurd h (by decide +kernel)) fun _ => ?_
  exact w5 (G := G) k
end
theorem pure_law (G : Gx) : Pure false 1 8 sp_law (w_law G) := by
  intro cells q eq hl hp
  obtain ⟨ns, rfl, hn, k⟩ := hp
  refine ⟨⟨?_, ?_⟩, npl rfl, fun i ρ => ∃ c1 c2 c3 : Cell, ρ = [.fz (.sl (ns.map D.int)), c1, c2, c3, .un, .un, .un, .un], ⟨_, _, _, rfl⟩, ?_, ?_⟩
  · split <;> split <;> omega
  · rw [List.length_map]
    split <;> split <;> omega
  · rintro i x ρ' hx ⟨c1, c2, c3, rfl⟩
    obtain ⟨_, rfl⟩ := idx_rng hx
    have ez : (0 : Int) + (i : Nat) = (i : Nat) := Int.zero_add _
    refine ⟨nd0, ns, i, congrArg (fun t => [Cell.fz (.sl (ns.map D.int)), .fz (.int t)]) ez, fun d hd => ⟨np rfl, ltOk, ?_⟩⟩
    refine ⟨⟨by decide, by decide⟩, npl rfl, fun j ρ => ∃ (d1 : D) (c3 : Cell), isDice d1 ∧ ρ = [.fz (.sl (ns.map D.int)), .fz (.int (0 + (i : Nat))), .ow d1, c3, .un, .un, .un, .un], ⟨d, c3, hd, rfl⟩, ?_, ?_⟩
    · rintro j y ρ'' hy ⟨d1, c4, hd1, rfl⟩
      refine ⟨nd1, d1, rfl, hd1, fun d2 hd2 => ?_⟩
      exact ⟨d2, _, hd2, rfl⟩
    · rintro ρ'' ⟨d1, c4, hd1, rfl⟩
      exact ⟨_, _, _, rfl⟩
  · rintro ρ' ⟨c1, c2, c3, rfl⟩
    exact w1 k
section
variable {G : Gx} {P : Program} {wd : World} {mg : Str → Option Value} {base : Heap}
theorem ok_law (T : Tx G wd mg) : FnG P wd G.K mg base CX0 10 T.a_law T.d_law ps_law (spP G 1 false sp_law) := by
  have M_Hole___init__ := ok_Hole___init__ (P := P) (wd := wd) (base := base) T
  have G__law_dice := (ok__law_dice (P := P) (wd := wd) (base := base) T).g
  have M_Hole_runs := ok_Hole_runs (P := P) (wd := wd) (base := base) T
  have M_Hole___len__ := ok_Hole___len__ (P := P) (wd := wd) (base := base) T
  have M_Hole___str__ := ok_Hole___str__ (P := P) (wd := wd) (base := base) T
  have M_Hole___eq__ := ok_Hole___eq__ (P := P) (wd := wd) (base := base) T
  have M_Hole_of := ok_Hole_of (P := P) (wd := wd) (base := base) T
  have G__law_right := ok__law_right (P := P) (wd := wd) (base := base) T
  refine fnP T.F_law sc_law (by decide) (w := w_law G) (fun cdv A outer s H E hga hr => ?_) (pure_law G)
  exact (py_cons (py_for (is := [1]) PassesOwn.never rfl (pxi_range1 rfl T.n_range (pxa_cons (px_callB (call_max2 rfl) max2_s rfl T.n_max (by decide +kernel) (pxa_cons px_int (pxa_cons (px_callB (call_min2 rfl) min2_s rfl T.n_min (by decide +kernel) (pxa_cons px_int (pxa_cons (px_callB len_anyK len_s rfl T.n_len (by decide +kernel) (pxa_cons (px_name 0) pxa_nil)) pxa_nil))) pxa_nil))) pxa_nil)) (pxg_name 1 sc_law.nd rfl (Or.inl rfl))
  (py_cons (py_setN 2 sc_law.nd rfl (Or.inl rfl) (pxn_callP G__law_dice hga (hr.mono (by decide)) rfl (pxa_cons (px_name 0) (pxa_cons (px_name 1) pxa_nil))))
  (py_one (py_for (is := [3]) PassesOwn.never rfl (pxi_range1 rfl T.n_range (pxa_cons px_int pxa_nil)) (pxg_name 3 sc_law.nd rfl (Or.inl rfl))
  (py_one (py_if (pxt_not (pxt_val (px_callP G__law_right hga (hr.mono (by decide)) rfl (pxa_cons (px_name 2) pxa_nil))))
  (py_one (py_ret px_bl))
  py_nil))))))
  (py_cons (py_asg (is := [4, 5]) (px_tup (pxa_cons (px_tup (pxa_cons (px_tup (pxa_cons px_str (pxa_cons px_str pxa_nil))) (pxa_cons px_int (pxa_cons px_int pxa_nil)))) (pxa_cons (px_tup (pxa_cons (px_tup (pxa_cons px_str pxa_nil)) (pxa_cons px_int (pxa_cons px_non pxa_nil)))) pxa_nil))) (pxg_tup rfl (pxgs_cons (pxg_name 4 sc_law.nd rfl (Or.inl rfl)) (pxgs_cons (pxg_name 5 sc_law.nd rfl (Or.inl rfl)) pxgs_nil))))
  (py_cons (py_set 6 sc_law.nd rfl (Or.inl rfl) (px_makeS M_Hole___init__ (fun σ => passAt takes0 σ) (hr.mono (by decide)) rfl T.m_Hole (pxa_cons (px_name 4) (pxa_cons (px_name 5) pxa_nil))))
  (py_cons (py_set 7 sc_law.nd rfl (Or.inl rfl) (px_lst (pxa_cons (px_prop (N := ["own_runs"]) (i := 0) M_Hole_runs T.ci_Hole rfl rfl (hr.mono (by decide)) (px_name 6)) (pxa_cons (px_lenO M_Hole___len__ (hr.mono (by decide)) rfl T.n_len (by decide +kernel) (pxa_cons (px_name 6) pxa_nil)) (pxa_cons (px_strO M_Hole___str__ (hr.mono (by decide)) rfl T.n_str (by decide +kernel) (pxa_cons (px_name 6) pxa_nil)) (pxa_cons (px_cmpO T.ci_Hole (eqO_ok M_Hole___eq__ T.ci_Hole T.ne_Hole (hr.mono (by decide)) hr.units) eq_s (px_name 6) (px_cmeth M_Hole_of (fun σ => passAt takes0 σ) (hr.mono (by decide)) (px_gcls rfl T.m_Hole) (pxa_cons (px_tup (pxa_cons (px_name 4) (pxa_cons (px_name 5) pxa_nil))) pxa_nil)) (nomark _)) (pxa_cons (px_cmpO T.ci_Hole (eqO_ok M_Hole___eq__ T.ci_Hole T.ne_Hole (hr.mono (by decide)) hr.units) eq_s (px_name 6) (px_makeS M_Hole___init__ (fun σ => passAt takes0 σ) (hr.mono (by decide)) rfl T.m_Hole (pxa_cons (px_name 5) (pxa_cons (px_name 4) pxa_nil))) (nomark _)) pxa_nil)))))))
  (py_cons (py_if (pxt_cmp (ne_ok hr.units) ne_s (px_name 7) (px_lst (pxa_cons (px_tup (pxa_cons (px_name 4) (pxa_cons (px_name 5) pxa_nil))) (pxa_cons px_int (pxa_cons px_str (pxa_cons px_bl (pxa_cons px_bl pxa_nil)))))) (nomark _))
  (py_one (py_ret px_bl))
  py_nil)
  (py_one (py_ret (px_and (px_cmpO T.ci_Hole (neO_ok M_Hole___eq__ T.ci_Hole T.ne_Hole (hr.mono (by decide)) hr.units) ne_s (px_makeS M_Hole___init__ (fun σ => passAt takes0 σ) (hr.mono (by decide)) rfl T.m_Hole (pxa_cons (px_tup (pxa_cons (px_tup (pxa_cons px_str pxa_nil)) (pxa_cons px_int (pxa_cons px_int pxa_nil)))) (pxa_cons (px_tup (pxa_cons (px_tup (pxa_cons px_str pxa_nil)) (pxa_cons px_int (pxa_cons px_int pxa_nil)))) pxa_nil))) (px_makeS M_Hole___init__ (fun σ => passAt takes0 σ) (hr.mono (by decide)) rfl T.m_Hole (pxa_cons (px_tup (pxa_cons (px_tup (pxa_cons px_str pxa_nil)) (pxa_cons px_int (pxa_cons px_int pxa_nil)))) pxa_nil)) (nomark _)) (px_one (px_cmpO T.ci_Hole (neO_ok M_Hole___eq__ T.ci_Hole T.ne_Hole (hr.mono (by decide)) hr.units) ne_s (px_cmeth M_Hole_of (fun σ => passAt takes0 σ) (hr.mono (by decide)) (px_gcls rfl T.m_Hole) (pxa_cons (px_tup (pxa_cons (px_name 5) pxa_nil)) pxa_nil)) (px_tup (pxa_cons (px_name 5) pxa_nil)) (nomark _)))))))))))
end
end Pu
namespace Pu
open PySem PySem.Spec PyProof.Rows L2 Lk Evl StX

open PySem.HandSPX
theorem entry_law {ns : List Int} (h : ns.length ≤ 63) : sp_law [.fz (.sl (ns.map D.int))] (fun d _ => d = .bl true) fun _ _ _ _ => False := ⟨ns, rfl, by omega, fun _ => rfl⟩
theorem all_mk {l : PySem.W.OpenLaw} {w : World} {K : PySem.W.Frag} {h : Heap} {mg : Str → Option Value} {fa : Addr} (X : K.In h) (N : h.Ns mainGlobals mg) (hfa : mg "law" = some (.ref fa))
    {c_Hole : Addr}
    {pp_Hole_runs : Addr} {rs_Hole_runs : List Value}
    {pc_Hole_of : Addr} {rs_Hole_of : List Value}
    {a_is_integer : Addr} {od_is_integer an_is_integer : Option Addr} {sl_is_integer : Array (Option Value)} {oc_is_integer kV_is_integer dc_is_integer pm_is_integer cd_is_integer ct_is_integer : Value}
    {a_is_sign : Addr} {od_is_sign an_is_sign : Option Addr} {sl_is_sign : Array (Option Value)} {oc_is_sign kV_is_sign dc_is_sign pm_is_sign cd_is_sign ct_is_sign : Value}
    {a_is_text : Addr} {od_is_text an_is_text : Option Addr} {sl_is_text : Array (Option Value)} {oc_is_text kV_is_text dc_is_text pm_is_text cd_is_text ct_is_text : Value}
    {a_are_signs : Addr} {od_are_signs an_are_signs : Option Addr} {sl_are_signs : Array (Option Value)} {oc_are_signs kV_are_signs dc_are_signs pm_are_signs cd_are_signs ct_are_signs : Value}
    {a_is_run : Addr} {od_is_run an_is_run : Option Addr} {sl_is_run : Array (Option Value)} {oc_is_run kV_is_run dc_is_run pm_is_run cd_is_run ct_is_run : Value}
    {a_Hole___init__ : Addr} {od_Hole___init__ an_Hole___init__ : Option Addr} {sl_Hole___init__ : Array (Option Value)} {oc_Hole___init__ kV_Hole___init__ dc_Hole___init__ pm_Hole___init__ cd_Hole___init__ ct_Hole___init__ : Value}
    {a_Hole_of : Addr} {od_Hole_of an_Hole_of : Option Addr} {sl_Hole_of : Array (Option Value)} {oc_Hole_of kV_Hole_of dc_Hole_of pm_Hole_of cd_Hole_of ct_Hole_of : Value}
    {a_Hole_runs : Addr} {od_Hole_runs an_Hole_runs : Option Addr} {sl_Hole_runs : Array (Option Value)} {oc_Hole_runs kV_Hole_runs dc_Hole_runs pm_Hole_runs cd_Hole_runs ct_Hole_runs : Value}
    {a_Hole___eq__ : Addr} {od_Hole___eq__ an_Hole___eq__ : Option Addr} {sl_Hole___eq__ : Array (Option Value)} {oc_Hole___eq__ kV_Hole___eq__ dc_Hole___eq__ pm_Hole___eq__ cd_Hole___eq__ ct_Hole___eq__ : Value}
    {a_Hole___len__ : Addr} {od_Hole___len__ an_Hole___len__ : Option Addr} {sl_Hole___len__ : Array (Option Value)} {oc_Hole___len__ kV_Hole___len__ dc_Hole___len__ pm_Hole___len__ cd_Hole___len__ ct_Hole___len__ : Value}
    {a_Hole___str__ : Addr} {od_Hole___str__ an_Hole___str__ : Option Addr} {sl_Hole___str__ : Array (Option Value)} {oc_Hole___str__ kV_Hole___str__ dc_Hole___str__ pm_Hole___str__ cd_Hole___str__ ct_Hole___str__ : Value}
    {a__law_dice : Addr} {od__law_dice an__law_dice : Option Addr} {sl__law_dice : Array (Option Value)} {oc__law_dice kV__law_dice dc__law_dice pm__law_dice cd__law_dice ct__law_dice : Value}
    {a__law_roll : Addr} {od__law_roll an__law_roll : Option Addr} {sl__law_roll : Array (Option Value)} {oc__law_roll kV__law_roll dc__law_roll pm__law_roll cd__law_roll ct__law_roll : Value}
    {a__law_one_of : Addr} {od__law_one_of an__law_one_of : Option Addr} {sl__law_one_of : Array (Option Value)} {oc__law_one_of kV__law_one_of dc__law_one_of pm__law_one_of cd__law_one_of ct__law_one_of : Value}
    {a__law_mixed : Addr} {od__law_mixed an__law_mixed : Option Addr} {sl__law_mixed : Array (Option Value)} {oc__law_mixed kV__law_mixed dc__law_mixed pm__law_mixed cd__law_mixed ct__law_mixed : Value}
    {a__law_all_signs : Addr} {od__law_all_signs an__law_all_signs : Option Addr} {sl__law_all_signs : Array (Option Value)} {oc__law_all_signs kV__law_all_signs dc__law_all_signs pm__law_all_signs cd__law_all_signs ct__law_all_signs : Value}
    {a__law_signs : Addr} {od__law_signs an__law_signs : Option Addr} {sl__law_signs : Array (Option Value)} {oc__law_signs kV__law_signs dc__law_signs pm__law_signs cd__law_signs ct__law_signs : Value}
    {a__law_run : Addr} {od__law_run an__law_run : Option Addr} {sl__law_run : Array (Option Value)} {oc__law_run kV__law_run dc__law_run pm__law_run cd__law_run ct__law_run : Value}
    {a__law_hole : Addr} {od__law_hole an__law_hole : Option Addr} {sl__law_hole : Array (Option Value)} {oc__law_hole kV__law_hole dc__law_hole pm__law_hole cd__law_hole ct__law_hole : Value}
    {a__law_odd : Addr} {od__law_odd an__law_odd : Option Addr} {sl__law_odd : Array (Option Value)} {oc__law_odd kV__law_odd dc__law_odd pm__law_odd cd__law_odd ct__law_odd : Value}
    {a__law_is_text : Addr} {od__law_is_text an__law_is_text : Option Addr} {sl__law_is_text : Array (Option Value)} {oc__law_is_text kV__law_is_text dc__law_is_text pm__law_is_text cd__law_is_text ct__law_is_text : Value}
    {a__law_is_integer : Addr} {od__law_is_integer an__law_is_integer : Option Addr} {sl__law_is_integer : Array (Option Value)} {oc__law_is_integer kV__law_is_integer dc__law_is_integer pm__law_is_integer cd__law_is_integer ct__law_is_integer : Value}
    {a__law_are_signs : Addr} {od__law_are_signs an__law_are_signs : Option Addr} {sl__law_are_signs : Array (Option Value)} {oc__law_are_signs kV__law_are_signs dc__law_are_signs pm__law_are_signs cd__law_are_signs ct__law_are_signs : Value}
    {a__law_told : Addr} {od__law_told an__law_told : Option Addr} {sl__law_told : Array (Option Value)} {oc__law_told kV__law_told dc__law_told pm__law_told cd__law_told ct__law_told : Value}
    {a__law_told_alone : Addr} {od__law_told_alone an__law_told_alone : Option Addr} {sl__law_told_alone : Array (Option Value)} {oc__law_told_alone kV__law_told_alone dc__law_told_alone pm__law_told_alone cd__law_told_alone ct__law_told_alone : Value}
    {a__law_is_run : Addr} {od__law_is_run an__law_is_run : Option Addr} {sl__law_is_run : Array (Option Value)} {oc__law_is_run kV__law_is_run dc__law_is_run pm__law_is_run cd__law_is_run ct__law_is_run : Value}
    {a__law_spoilt : Addr} {od__law_spoilt an__law_spoilt : Option Addr} {sl__law_spoilt : Array (Option Value)} {oc__law_spoilt kV__law_spoilt dc__law_spoilt pm__law_spoilt cd__law_spoilt ct__law_spoilt : Value}
    {a__law_right : Addr} {od__law_right an__law_right : Option Addr} {sl__law_right : Array (Option Value)} {oc__law_right kV__law_right dc__law_right pm__law_right cd__law_right ct__law_right : Value}
    {a_law : Addr} {od_law an_law : Option Addr} {sl_law : Array (Option Value)} {oc_law kV_law dc_law pm_law cd_law ct_law : Value}
    {c_DressError : Addr}
    {c_InvalidHole : Addr}
    {t_SIGNS : Tok}
    {t_GREATEST : Tok}
    {t_MAX_RUNS : Tok}
    {t_MAX_COUNT : Tok}
    (h1_is_integer : PySem.W.nsIn K mainGlobals "is_integer" = some (some (.ref a_is_integer)))
    (h2_is_integer : K.lookup a_is_integer = some ⟨oc_is_integer, od_is_integer, .func (PySem.W.fnOf "is_integer" "is_integer" (defArgs s_is_integer) (defBody s_is_integer) (defScope s_is_integer) .none kV_is_integer dc_is_integer pm_is_integer an_is_integer cd_is_integer ct_is_integer), sl_is_integer⟩)
    (h3_is_integer : PySem.W.codeIn K cd_is_integer "is_integer" = true)
    (h4_is_integer : PySem.W.keepIn K (.ref a_is_integer) = true)
    (h1_is_sign : PySem.W.nsIn K mainGlobals "is_sign" = some (some (.ref a_is_sign)))
    (h2_is_sign : K.lookup a_is_sign = some ⟨oc_is_sign, od_is_sign, .func (PySem.W.fnOf "is_sign" "is_sign" (defArgs s_is_sign) (defBody s_is_sign) (defScope s_is_sign) .none kV_is_sign dc_is_sign pm_is_sign an_is_sign cd_is_sign ct_is_sign), sl_is_sign⟩)
    (h3_is_sign : PySem.W.codeIn K cd_is_sign "is_sign" = true)
    (h4_is_sign : PySem.W.keepIn K (.ref a_is_sign) = true)
    (h1_is_text : PySem.W.nsIn K mainGlobals "is_text" = some (some (.ref a_is_text)))
    (h2_is_text : K.lookup a_is_text = some ⟨oc_is_text, od_is_text, .func (PySem.W.fnOf "is_text" "is_text" (defArgs s_is_text) (defBody s_is_text) (defScope s_is_text) .none kV_is_text dc_is_text pm_is_text an_is_text cd_is_text ct_is_text), sl_is_text⟩)
    (h3_is_text : PySem.W.codeIn K cd_is_text "is_text" = true)
    (h4_is_text : PySem.W.keepIn K (.ref a_is_text) = true)
    (h1_are_signs : PySem.W.nsIn K mainGlobals "are_signs" = some (some (.ref a_are_signs)))
    (h2_are_signs : K.lookup a_are_signs = some ⟨oc_are_signs, od_are_signs, .func (PySem.W.fnOf "are_signs" "are_signs" (defArgs s_are_signs) (defBody s_are_signs) (defScope s_are_signs) .none kV_are_signs dc_are_signs pm_are_signs an_are_signs cd_are_signs ct_are_signs), sl_are_signs⟩)
    (h3_are_signs : PySem.W.codeIn K cd_are_signs "are_signs" = true)
    (h4_are_signs : PySem.W.keepIn K (.ref a_are_signs) = true)
    (h1_is_run : PySem.W.nsIn K mainGlobals "is_run" = some (some (.ref a_is_run)))
    (h2_is_run : K.lookup a_is_run = some ⟨oc_is_run, od_is_run, .func (PySem.W.fnOf "is_run" "is_run" (defArgs s_is_run) (defBody s_is_run) (defScope s_is_run) .none kV_is_run dc_is_run pm_is_run an_is_run cd_is_run ct_is_run), sl_is_run⟩)
    (h3_is_run : PySem.W.codeIn K cd_is_run "is_run" = true)
    (h4_is_run : PySem.W.keepIn K (.ref a_is_run) = true)
    (h2_Hole___init__ : K.lookup a_Hole___init__ = some ⟨oc_Hole___init__, od_Hole___init__, .func (PySem.W.fnOf "__init__" "Hole.__init__" (defArgs s_Hole___init__) (defBody s_Hole___init__) (defScope s_Hole___init__) .none kV_Hole___init__ dc_Hole___init__ pm_Hole___init__ an_Hole___init__ cd_Hole___init__ ct_Hole___init__), sl_Hole___init__⟩)
    (h3_Hole___init__ : PySem.W.codeIn K cd_Hole___init__ "Hole.__init__" = true)
    (h4_Hole___init__ : PySem.W.keepIn K (.ref a_Hole___init__) = true)
    (h2_Hole_of : K.lookup a_Hole_of = some ⟨oc_Hole_of, od_Hole_of, .func (PySem.W.fnOf "of" "Hole.of" (defArgs s_Hole_of) (defBody s_Hole_of) (defScope s_Hole_of) .none kV_Hole_of dc_Hole_of pm_Hole_of an_Hole_of cd_Hole_of ct_Hole_of), sl_Hole_of⟩)
    (h3_Hole_of : PySem.W.codeIn K cd_Hole_of "Hole.of" = true)
    (h4_Hole_of : PySem.W.keepIn K (.ref a_Hole_of) = true)
    (h2_Hole_runs : K.lookup a_Hole_runs = some ⟨oc_Hole_runs, od_Hole_runs, .func (PySem.W.fnOf "runs" "Hole.runs" (defArgs s_Hole_runs) (defBody s_Hole_runs) (defScope s_Hole_runs) .none kV_Hole_runs dc_Hole_runs pm_Hole_runs an_Hole_runs cd_Hole_runs ct_Hole_runs), sl_Hole_runs⟩)
    (h3_Hole_runs : PySem.W.codeIn K cd_Hole_runs "Hole.runs" = true)
    (h4_Hole_runs : PySem.W.keepIn K (.ref a_Hole_runs) = true)
    (h2_Hole___eq__ : K.lookup a_Hole___eq__ = some ⟨oc_Hole___eq__, od_Hole___eq__, .func (PySem.W.fnOf "__eq__" "Hole.__eq__" (defArgs s_Hole___eq__) (defBody s_Hole___eq__) (defScope s_Hole___eq__) .none kV_Hole___eq__ dc_Hole___eq__ pm_Hole___eq__ an_Hole___eq__ cd_Hole___eq__ ct_Hole___eq__), sl_Hole___eq__⟩)
    (h3_Hole___eq__ : PySem.W.codeIn K cd_Hole___eq__ "Hole.__eq__" = true)
    (h4_Hole___eq__ : PySem.W.keepIn K (.ref a_Hole___eq__) = true)
    (h2_Hole___len__ : K.lookup a_Hole___len__ = some ⟨oc_Hole___len__, od_Hole___len__, .func (PySem.W.fnOf "__len__" "Hole.__len__" (defArgs s_Hole___len__) (defBody s_Hole___len__) (defScope s_Hole___len__) .none kV_Hole___len__ dc_Hole___len__ pm_Hole___len__ an_Hole___len__ cd_Hole___len__ ct_Hole___len__), sl_Hole___len__⟩)
    (h3_Hole___len__ : PySem.W.codeIn K cd_Hole___len__ "Hole.__len__" = true)
    (h4_Hole___len__ : PySem.W.keepIn K (.ref a_Hole___len__) = true)
    (h2_Hole___str__ : K.lookup a_Hole___str__ = some ⟨oc_Hole___str__, od_Hole___str__, .func (PySem.W.fnOf "__str__" "Hole.__str__" (defArgs s_Hole___str__) (defBody s_Hole___str__) (defScope s_Hole___str__) .none kV_Hole___str__ dc_Hole___str__ pm_Hole___str__ an_Hole___str__ cd_Hole___str__ ct_Hole___str__), sl_Hole___str__⟩)
    (h3_Hole___str__ : PySem.W.codeIn K cd_Hole___str__ "Hole.__str__" = true)
    (h4_Hole___str__ : PySem.W.keepIn K (.ref a_Hole___str__) = true)
    (h1__law_dice : PySem.W.nsIn K mainGlobals "_law_dice" = some (some (.ref a__law_dice)))
    (h2__law_dice : K.lookup a__law_dice = some ⟨oc__law_dice, od__law_dice, .func (PySem.W.fnOf "_law_dice" "_law_dice" (defArgs s__law_dice) (defBody s__law_dice) (defScope s__law_dice) .none kV__law_dice dc__law_dice pm__law_dice an__law_dice cd__law_dice ct__law_dice), sl__law_dice⟩)
    (h3__law_dice : PySem.W.codeIn K cd__law_dice "_law_dice" = true)
    (h4__law_dice : PySem.W.keepIn K (.ref a__law_dice) = true)
    (h1__law_roll : PySem.W.nsIn K mainGlobals "_law_roll" = some (some (.ref a__law_roll)))
    (h2__law_roll : K.lookup a__law_roll = some ⟨oc__law_roll, od__law_roll, .func (PySem.W.fnOf "_law_roll" "_law_roll" (defArgs s__law_roll) (defBody s__law_roll) (defScope s__law_roll) .none kV__law_roll dc__law_roll pm__law_roll an__law_roll cd__law_roll ct__law_roll), sl__law_roll⟩)
    (h3__law_roll : PySem.W.codeIn K cd__law_roll "_law_roll" = true)
    (h4__law_roll : PySem.W.keepIn K (.ref a__law_roll) = true)
    (h1__law_one_of : PySem.W.nsIn K mainGlobals "_law_one_of" = some (some (.ref a__law_one_of)))
    (h2__law_one_of : K.lookup a__law_one_of = some ⟨oc__law_one_of, od__law_one_of, .func (PySem.W.fnOf "_law_one_of" "_law_one_of" (defArgs s__law_one_of) (defBody s__law_one_of) (defScope s__law_one_of) .none kV__law_one_of dc__law_one_of pm__law_one_of an__law_one_of cd__law_one_of ct__law_one_of), sl__law_one_of⟩)
    (h3__law_one_of : PySem.W.codeIn K cd__law_one_of "_law_one_of" = true)
    (h4__law_one_of : PySem.W.keepIn K (.ref a__law_one_of) = true)
    (h1__law_mixed : PySem.W.nsIn K mainGlobals "_law_mixed" = some (some (.ref a__law_mixed)))
    (h2__law_mixed : K.lookup a__law_mixed = some ⟨oc__law_mixed, od__law_mixed, .func (PySem.W.fnOf "_law_mixed" "_law_mixed" (defArgs s__law_mixed) (defBody s__law_mixed) (defScope s__law_mixed) .none kV__law_mixed dc__law_mixed pm__law_mixed an__law_mixed cd__law_mixed ct__law_mixed), sl__law_mixed⟩)
    (h3__law_mixed : PySem.W.codeIn K cd__law_mixed "_law_mixed" = true)
    (h4__law_mixed : PySem.W.keepIn K (.ref a__law_mixed) = true)
    (h1__law_all_signs : PySem.W.nsIn K mainGlobals "_law_all_signs" = some (some (.ref a__law_all_signs)))
    (h2__law_all_signs : K.lookup a__law_all_signs = some ⟨oc__law_all_signs, od__law_all_signs, .func (PySem.W.fnOf "_law_all_signs" "_law_all_signs" (defArgs s__law_all_signs) (defBody s__law_all_signs) (defScope s__law_all_signs) .none kV__law_all_signs dc__law_all_signs pm__law_all_signs an__law_all_signs cd__law_all_signs ct__law_all_signs), sl__law_all_signs⟩)
    (h3__law_all_signs : PySem.W.codeIn K cd__law_all_signs "_law_all_signs" = true)
    (h4__law_all_signs : PySem.W.keepIn K (.ref a__law_all_signs) = true)
    (h1__law_signs : PySem.W.nsIn K mainGlobals "_law_signs" = some (some (.ref a__law_signs)))
    (h2__law_signs : K.lookup a__law_signs = some ⟨oc__law_signs, od__law_signs, .func (PySem.W.fnOf "_law_signs" "_law_signs" (defArgs s__law_signs) (defBody s__law_signs) (defScope s__law_signs) .none kV__law_signs dc__law_signs pm__law_signs an__law_signs cd__law_signs ct__law_signs), sl__law_signs⟩)
    (h3__law_signs : PySem.W.codeIn K cd__law_signs "_law_signs" = true)
    (h4__law_signs : PySem.W.keepIn K (.ref a__law_signs) = true)
    (h1__law_run : PySem.W.nsIn K mainGlobals "_law_run" = some (some (.ref a__law_run)))
    (h2__law_run : K.lookup a__law_run = some ⟨oc__law_run, od__law_run, .func (PySem.W.fnOf "_law_run" "_law_run" (defArgs s__law_run) (defBody s__law_run) (defScope s__law_run) .none kV__law_run dc__law_run pm__law_run an__law_run cd__law_run ct__law_run), sl__law_run⟩)
    (h3__law_run : PySem.W.codeIn K cd__law_run "_law_run" = true)
    (h4__law_run : PySem.W.keepIn K (.ref a__law_run) = true)
    (h1__law_hole : PySem.W.nsIn K mainGlobals "_law_hole" = some (some (.ref a__law_hole)))
    (h2__law_hole : K.lookup a__law_hole = some ⟨oc__law_hole, od__law_hole, .func (PySem.W.fnOf "_law_hole" "_law_hole" (defArgs s__law_hole) (defBody s__law_hole) (defScope s__law_hole) .none kV__law_hole dc__law_hole pm__law_hole an__law_hole cd__law_hole ct__law_hole), sl__law_hole⟩)
    (h3__law_hole : PySem.W.codeIn K cd__law_hole "_law_hole" = true)
    (h4__law_hole : PySem.W.keepIn K (.ref a__law_hole) = true)
    (h1__law_odd : PySem.W.nsIn K mainGlobals "_law_odd" = some (some (.ref a__law_odd)))
    (h2__law_odd : K.lookup a__law_odd = some ⟨oc__law_odd, od__law_odd, .func (PySem.W.fnOf "_law_odd" "_law_odd" (defArgs s__law_odd) (defBody s__law_odd) (defScope s__law_odd) .none kV__law_odd dc__law_odd pm__law_odd an__law_odd cd__law_odd ct__law_odd), sl__law_odd⟩)
    (h3__law_odd : PySem.W.codeIn K cd__law_odd "_law_odd" = true)
    (h4__law_odd : PySem.W.keepIn K (.ref a__law_odd) = true)
    (h1__law_is_text : PySem.W.nsIn K mainGlobals "_law_is_text" = some (some (.ref a__law_is_text)))
    (h2__law_is_text : K.lookup a__law_is_text = some ⟨oc__law_is_text, od__law_is_text, .func (PySem.W.fnOf "_law_is_text" "_law_is_text" (defArgs s__law_is_text) (defBody s__law_is_text) (defScope s__law_is_text) .none kV__law_is_text dc__law_is_text pm__law_is_text an__law_is_text cd__law_is_text ct__law_is_text), sl__law_is_text⟩)
    (h3__law_is_text : PySem.W.codeIn K cd__law_is_text "_law_is_text" = true)
    (h4__law_is_text : PySem.W.keepIn K (.ref a__law_is_text) = true)
    (h1__law_is_integer : PySem.W.nsIn K mainGlobals "_law_is_integer" = some (some (.ref a__law_is_integer)))
    (h2__law_is_integer : K.lookup a__law_is_integer = some ⟨oc__law_is_integer, od__law_is_integer, .func (PySem.W.fnOf "_law_is_integer" "_law_is_integer" (defArgs s__law_is_integer) (defBody s__law_is_integer) (defScope s__law_is_integer) .none kV__law_is_integer dc__law_is_integer pm__law_is_integer an__law_is_integer cd__law_is_integer ct__law_is_integer), sl__law_is_integer⟩)
    (h3__law_is_integer : PySem.W.codeIn K cd__law_is_integer "_law_is_integer" = true)
    (h4__law_is_integer : PySem.W.keepIn K (.ref a__law_is_integer) = true)
    (h1__law_are_signs : PySem.W.nsIn K mainGlobals "_law_are_signs" = some (some (.ref a__law_are_signs)))
    (h2__law_are_signs : K.lookup a__law_are_signs = some ⟨oc__law_are_signs, od__law_are_signs, .func (PySem.W.fnOf "_law_are_signs" "_law_are_signs" (defArgs s__law_are_signs) (defBody s__law_are_signs) (defScope s__law_are_signs) .none kV__law_are_signs dc__law_are_signs pm__law_are_signs an__law_are_signs cd__law_are_signs ct__law_are_signs), sl__law_are_signs⟩)
    (h3__law_are_signs : PySem.W.codeIn K cd__law_are_signs "_law_are_signs" = true)
    (h4__law_are_signs : PySem.W.keepIn K (.ref a__law_are_signs) = true)
    (h1__law_told : PySem.W.nsIn K mainGlobals "_law_told" = some (some (.ref a__law_told)))
    (h2__law_told : K.lookup a__law_told = some ⟨oc__law_told, od__law_told, .func (PySem.W.fnOf "_law_told" "_law_told" (defArgs s__law_told) (defBody s__law_told) (defScope s__law_told) .none kV__law_told dc__law_told pm__law_told an__law_told cd__law_told ct__law_told), sl__law_told⟩)
    (h3__law_told : PySem.W.codeIn K cd__law_told "_law_told" = true)
    (h4__law_told : PySem.W.keepIn K (.ref a__law_told) = true)
    (h1__law_told_alone : PySem.W.nsIn K mainGlobals "_law_told_alone" = some (some (.ref a__law_told_alone)))
    (h2__law_told_alone : K.lookup a__law_told_alone = some ⟨oc__law_told_alone, od__law_told_alone, .func (PySem.W.fnOf "_law_told_alone" "_law_told_alone" (defArgs s__law_told_alone) (defBody s__law_told_alone) (defScope s__law_told_alone) .none kV__law_told_alone dc__law_told_alone pm__law_told_alone an__law_told_alone cd__law_told_alone ct__law_told_alone), sl__law_told_alone⟩)
    (h3__law_told_alone : PySem.W.codeIn K cd__law_told_alone "_law_told_alone" = true)
    (h4__law_told_alone : PySem.W.keepIn K (.ref a__law_told_alone) = true)
    (h1__law_is_run : PySem.W.nsIn K mainGlobals "_law_is_run" = some (some (.ref a__law_is_run)))
    (h2__law_is_run : K.lookup a__law_is_run = some ⟨oc__law_is_run, od__law_is_run, .func (PySem.W.fnOf "_law_is_run" "_law_is_run" (defArgs s__law_is_run) (defBody s__law_is_run) (defScope s__law_is_run) .none kV__law_is_run dc__law_is_run pm__law_is_run an__law_is_run cd__law_is_run ct__law_is_run), sl__law_is_run⟩)
    (h3__law_is_run : PySem.W.codeIn K cd__law_is_run "_law_is_run" = true)
    (h4__law_is_run : PySem.W.keepIn K (.ref a__law_is_run) = true)
    (h1__law_spoilt : PySem.W.nsIn K mainGlobals "_law_spoilt" = some (some (.ref a__law_spoilt)))
    (h2__law_spoilt : K.lookup a__law_spoilt = some ⟨oc__law_spoilt, od__law_spoilt, .func (PySem.W.fnOf "_law_spoilt" "_law_spoilt" (defArgs s__law_spoilt) (defBody s__law_spoilt) (defScope s__law_spoilt) .none kV__law_spoilt dc__law_spoilt pm__law_spoilt an__law_spoilt cd__law_spoilt ct__law_spoilt), sl__law_spoilt⟩)
    (h3__law_spoilt : PySem.W.codeIn K cd__law_spoilt "_law_spoilt" = true)
    (h4__law_spoilt : PySem.W.keepIn K (.ref a__law_spoilt) = true)
    (h1__law_right : PySem.W.nsIn K mainGlobals "_law_right" = some (some (.ref a__law_right)))
    (h2__law_right : K.lookup a__law_right = some ⟨oc__law_right, od__law_right, .func (PySem.W.fnOf "_law_right" "_law_right" (defArgs s__law_right) (defBody s__law_right) (defScope s__law_right) .none kV__law_right dc__law_right pm__law_right an__law_right cd__law_right ct__law_right), sl__law_right⟩)
    (h3__law_right : PySem.W.codeIn K cd__law_right "_law_right" = true)
    (h4__law_right : PySem.W.keepIn K (.ref a__law_right) = true)
    (h1_law : PySem.W.nsIn K mainGlobals "law" = some (some (.ref a_law)))
    (h2_law : K.lookup a_law = some ⟨oc_law, od_law, .func (PySem.W.fnOf "law" "law" (defArgs s_law) (defBody s_law) (defScope s_law) .none kV_law dc_law pm_law an_law cd_law ct_law), sl_law⟩)
    (h3_law : PySem.W.codeIn K cd_law "law" = true)
    (h4_law : PySem.W.keepIn K (.ref a_law) = true)
    (m_DressError : PySem.W.nsIn K mainGlobals "DressError" = some (some (.ref c_DressError)))
    (x_DressError : PySem.W.excIn K c_DressError [.type "ValueError", .type "Exception", .type "BaseException", .type "object"] "ValueError.__new__" = true)
    (k_DressError : PySem.W.keepIn K (.ref c_DressError) = true)
    (b_DressError : PySem.W.subIn K (.ref c_DressError) (.type "BaseException") = some true)
    (t_DressError : PySem.W.typeIn K (.ref c_DressError) = some (.type "type"))
    (i_DressError : PySem.W.isClsIn K c_DressError = true)
    (m_InvalidHole : PySem.W.nsIn K mainGlobals "InvalidHole" = some (some (.ref c_InvalidHole)))
    (x_InvalidHole : PySem.W.excIn K c_InvalidHole [.type "ValueError", .type "Exception", .type "BaseException", .type "object"] "ValueError.__new__" = true)
    (k_InvalidHole : PySem.W.keepIn K (.ref c_InvalidHole) = true)
    (b_InvalidHole : PySem.W.subIn K (.ref c_InvalidHole) (.type "BaseException") = some true)
    (t_InvalidHole : PySem.W.typeIn K (.ref c_InvalidHole) = some (.type "type"))
    (i_InvalidHole : PySem.W.isClsIn K c_InvalidHole = true)
    (m_Hole : PySem.W.nsIn K mainGlobals "Hole" = some (some (.ref c_Hole)))
    (cb_Hole : clsB K c_Hole = true)
    (na_Hole_own_runs : PySem.W.findIn K (.ref c_Hole) "own_runs" = some none)
    (mk_Hole : PySem.W.makesIn K c_Hole = true)
    (mi_Hole : PySem.W.findIn K (.ref c_Hole) "__init__" = some (some (.ref a_Hole___init__)))
    (mf_Hole : PySem.W.isFn K (.ref a_Hole___init__) = true)
    (kp_Hole : PySem.W.keepIn K (.ref c_Hole) = true)
    (ne_Hole : PySem.W.findIn K (.ref c_Hole) "__ne__" = some (some (.builtin "object.__ne__")))
    (at_Hole___eq__ : PySem.W.findIn K (.ref c_Hole) "__eq__" = some (some (.ref a_Hole___eq__)))
    (fn_Hole___eq__ : PySem.W.isFn K (.ref a_Hole___eq__) = true)
    (at_Hole___len__ : PySem.W.findIn K (.ref c_Hole) "__len__" = some (some (.ref a_Hole___len__)))
    (fn_Hole___len__ : PySem.W.isFn K (.ref a_Hole___len__) = true)
    (at_Hole___str__ : PySem.W.findIn K (.ref c_Hole) "__str__" = some (some (.ref a_Hole___str__)))
    (fn_Hole___str__ : PySem.W.isFn K (.ref a_Hole___str__) = true)
    (pa_Hole_runs : PySem.W.findIn K (.ref c_Hole) "runs" = some (some (.ref pp_Hole_runs)))
    (pg_Hole_runs : PySem.W.specialIn K (.ref pp_Hole_runs) "__get__" = some (some (.builtin "property.__get__")))
    (pt_Hole_runs : PySem.W.takesIn K (.ref pp_Hole_runs) = some true)
    (pr_Hole_runs : PySem.W.recIn K pp_Hole_runs "property" = some (.ref a_Hole_runs :: rs_Hole_runs))
    (rd_Hole : PySem.W.readsIn K c_Hole (.type "type") = true)
    (rg_Hole : PySem.W.specialIn K (.ref c_Hole) "__getattribute__" = some (some (.builtin "type.__getattribute__")))
    (ca_Hole_of : PySem.W.findCls K (.ref c_Hole) (.type "type") "of" = some (.get (.builtin "classmethod.__get__") (.ref pc_Hole_of) .none (.ref c_Hole)))
    (cr_Hole_of : PySem.W.recIn K pc_Hole_of "classmethod" = some (.ref a_Hole_of :: rs_Hole_of))
    (cf_Hole_of : PySem.W.fnIn K a_Hole_of = true)
    (e_InvalidHole_InvalidHole : PySem.W.exmOne K (.ref c_InvalidHole) (.ref c_InvalidHole) = some true)
    (m_SIGNS : PySem.W.nsIn K mainGlobals "SIGNS" = some (some (.str (Str.ofString "#$0123:_abcdefg") t_SIGNS)))
    (m_GREATEST : PySem.W.nsIn K mainGlobals "GREATEST" = some (some (.int 9999999999999999999999999999999999999999 t_GREATEST)))
    (m_MAX_RUNS : PySem.W.nsIn K mainGlobals "MAX_RUNS" = some (some (.int 4 t_MAX_RUNS)))
    (m_MAX_COUNT : PySem.W.nsIn K mainGlobals "MAX_COUNT" = some (some (.int 3 t_MAX_COUNT)))
    (n_len : PySem.W.nsIn K mainGlobals "len" = some none)
    (n_isinstance : PySem.W.nsIn K mainGlobals "isinstance" = some none)
    (n_all : PySem.W.nsIn K mainGlobals "all" = some none)
    (n_str : PySem.W.nsIn K mainGlobals "str" = some none)
    (n_int : PySem.W.nsIn K mainGlobals "int" = some none)
    (n_bool : PySem.W.nsIn K mainGlobals "bool" = some none)
    (n_abs : PySem.W.nsIn K mainGlobals "abs" = some none)
    (n_max : PySem.W.nsIn K mainGlobals "max" = some none)
    (n_min : PySem.W.nsIn K mainGlobals "min" = some none)
    (n_range : PySem.W.nsIn K mainGlobals "range" = some none)
    (n_tuple : PySem.W.nsIn K mainGlobals "tuple" = some none)
    (n_list : PySem.W.nsIn K mainGlobals "list" = some none)
    (n_sorted : PySem.W.nsIn K mainGlobals "sorted" = some none)
    (n_zip : PySem.W.nsIn K mainGlobals "zip" = some none)
    (n_repr : PySem.W.nsIn K mainGlobals "repr" = some none)
    (n_set : PySem.W.nsIn K mainGlobals "set" = some none)
    : ∃ (fd : FuncData) (cs : List (Addr × Addr)) (sp : Sp), (∀ p ∈ cs, h.get? p.2 = some { cls := .none, data := .fields #[] }) ∧ (∀ p ∈ cs, K.lookup p.2 = none) ∧ (∀ p ∈ cs, PySem.W.CodeHd h p.1 p.2) ∧ (∀ (s : Shared) (u : Value), BindsTo s fd ⟨[u], []⟩ [("script", u)]) ∧
        (∀ (H : Hp) (a : Addr) (ns : List Int), ns.length ≤ 63 → (∀ p ∈ cs, H p.2 = some (.tbl #[])) → SqL K H a (ns.map V.int) → sp [.ref a] H (fun v _ => v = .bl true) fun _ _ _ => False) ∧
        ∀ base : Heap, K.In base → base.Ns mainGlobals mg → (∀ p ∈ cs, LamX.TabB base mg p.1 p.2) → FnG l.prog w K mg base CX0 10 fa fd ["script"] sp := by
  have e0 := hfa.symm.trans (PySem.W.mg_of X N h1_law)
  have e1 : a_law = fa := by cases e0; rfl
  subst e1
  have g_DressError : clOf [(Str.ofString "DressError", c_DressError), (Str.ofString "InvalidHole", c_InvalidHole), (Str.ofString "Hole", c_Hole)] "DressError" = c_DressError := by kernel_rfl
  have g_InvalidHole : clOf [(Str.ofString "DressError", c_DressError), (Str.ofString "InvalidHole", c_InvalidHole), (Str.ofString "Hole", c_Hole)] "InvalidHole" = c_InvalidHole := by kernel_rfl
  have g_Hole : clOf [(Str.ofString "DressError", c_DressError), (Str.ofString "InvalidHole", c_InvalidHole), (Str.ofString "Hole", c_Hole)] "Hole" = c_Hole := by kernel_rfl
  obtain ⟨G, gK, gT, gC, gS⟩ := gx_ex K [(Str.ofString "DressError", c_DressError), (Str.ofString "InvalidHole", c_InvalidHole), (Str.ofString "Hole", c_Hole)] [((Str.ofString "InvalidHole", Str.ofString "InvalidHole"), true)] [] (by
    intro p hp
    rcases List.mem_cons.mp hp with rfl | hp
    · show PySem.W.exmOne K (.ref (clOf [(Str.ofString "DressError", c_DressError), (Str.ofString "InvalidHole", c_InvalidHole), (Str.ofString "Hole", c_Hole)] "InvalidHole")) (.ref (clOf [(Str.ofString "DressError", c_DressError), (Str.ofString "InvalidHole", c_InvalidHole), (Str.ofString "Hole", c_Hole)] "InvalidHole")) = some true
      rw [g_InvalidHole]
      exact e_InvalidHole_InvalidHole
    cases hp)
  have s_InvalidHole_InvalidHole : G.sub "InvalidHole" "InvalidHole" = some true := (gS _ _).trans (by kernel_rfl)
  have k_cl_DressError := (gC "DressError").trans g_DressError
  clear g_DressError
  have k_cl_InvalidHole := (gC "InvalidHole").trans g_InvalidHole
  clear g_InvalidHole
  have k_cl_Hole := (gC "Hole").trans g_Hole
  clear g_Hole
  clear gC gS
  subst gK
  subst k_cl_DressError
  subst k_cl_InvalidHole
  subst k_cl_Hole
  have F_is_integer := fun_mk (st := s_is_integer) h2_is_integer h3_is_integer h4_is_integer
  have B_is_integer := F_is_integer.binds (ps := ps_is_integer) fun _ _ _ _ _ _ us hl => match us, hl with | [_], _ => rfl
  have F_is_sign := fun_mk (st := s_is_sign) h2_is_sign h3_is_sign h4_is_sign
  have B_is_sign := F_is_sign.binds (ps := ps_is_sign) fun _ _ _ _ _ _ us hl => match us, hl with | [_], _ => rfl
  have F_is_text := fun_mk (st := s_is_text) h2_is_text h3_is_text h4_is_text
  have B_is_text := F_is_text.binds (ps := ps_is_text) fun _ _ _ _ _ _ us hl => match us, hl with | [_], _ => rfl
  have F_are_signs := fun_mk (st := s_are_signs) h2_are_signs h3_are_signs h4_are_signs
  have B_are_signs := F_are_signs.binds (ps := ps_are_signs) fun _ _ _ _ _ _ us hl => match us, hl with | [_], _ => rfl
  have F_is_run := fun_mk (st := s_is_run) h2_is_run h3_is_run h4_is_run
  have B_is_run := F_is_run.binds (ps := ps_is_run) fun _ _ _ _ _ _ us hl => match us, hl with | [_], _ => rfl
  have F_Hole___init__ := fun_mk (st := s_Hole___init__) h2_Hole___init__ h3_Hole___init__ h4_Hole___init__
  have F_Hole_of := fun_mk (st := s_Hole_of) h2_Hole_of h3_Hole_of h4_Hole_of
  have B_Hole_of := F_Hole_of.binds (ps := ps_Hole_of) fun _ _ _ _ _ _ us hl => match us, hl with | [_, _], _ => rfl
  have F_Hole_runs := fun_mk (st := s_Hole_runs) h2_Hole_runs h3_Hole_runs h4_Hole_runs
  have B_Hole_runs := F_Hole_runs.binds (ps := ps_Hole_runs) fun _ _ _ _ _ _ us hl => match us, hl with | [_], _ => rfl
  have F_Hole___eq__ := fun_mk (st := s_Hole___eq__) h2_Hole___eq__ h3_Hole___eq__ h4_Hole___eq__
  have B_Hole___eq__ := F_Hole___eq__.binds (ps := ps_Hole___eq__) fun _ _ _ _ _ _ us hl => match us, hl with | [_, _], _ => rfl
  have F_Hole___len__ := fun_mk (st := s_Hole___len__) h2_Hole___len__ h3_Hole___len__ h4_Hole___len__
  have B_Hole___len__ := F_Hole___len__.binds (ps := ps_Hole___len__) fun _ _ _ _ _ _ us hl => match us, hl with | [_], _ => rfl
  have F_Hole___str__ := fun_mk (st := s_Hole___str__) h2_Hole___str__ h3_Hole___str__ h4_Hole___str__
  have B_Hole___str__ := F_Hole___str__.binds (ps := ps_Hole___str__) fun _ _ _ _ _ _ us hl => match us, hl with | [_], _ => rfl
  have F__law_dice := fun_mk (st := s__law_dice) h2__law_dice h3__law_dice h4__law_dice
  have B__law_dice := F__law_dice.binds (ps := ps__law_dice) fun _ _ _ _ _ _ us hl => match us, hl with | [_, _], _ => rfl
  have F__law_roll := fun_mk (st := s__law_roll) h2__law_roll h3__law_roll h4__law_roll
  have B__law_roll := F__law_roll.binds (ps := ps__law_roll) fun _ _ _ _ _ _ us hl => match us, hl with | [_, _], _ => rfl
  have F__law_one_of := fun_mk (st := s__law_one_of) h2__law_one_of h3__law_one_of h4__law_one_of
  have B__law_one_of := F__law_one_of.binds (ps := ps__law_one_of) fun _ _ _ _ _ _ us hl => match us, hl with | [_, _], _ => rfl
  have F__law_mixed := fun_mk (st := s__law_mixed) h2__law_mixed h3__law_mixed h4__law_mixed
  have B__law_mixed := F__law_mixed.binds (ps := ps__law_mixed) fun _ _ _ _ _ _ us hl => match us, hl with | [_, _], _ => rfl
  have F__law_all_signs := fun_mk (st := s__law_all_signs) h2__law_all_signs h3__law_all_signs h4__law_all_signs
  have B__law_all_signs := F__law_all_signs.binds (ps := ps__law_all_signs) fun _ _ _ _ _ _ us hl => match us, hl with | [], _ => rfl
  have F__law_signs := fun_mk (st := s__law_signs) h2__law_signs h3__law_signs h4__law_signs
  have B__law_signs := F__law_signs.binds (ps := ps__law_signs) fun _ _ _ _ _ _ us hl => match us, hl with | [_, _], _ => rfl
  have F__law_run := fun_mk (st := s__law_run) h2__law_run h3__law_run h4__law_run
  have B__law_run := F__law_run.binds (ps := ps__law_run) fun _ _ _ _ _ _ us hl => match us, hl with | [_, _], _ => rfl
  have F__law_hole := fun_mk (st := s__law_hole) h2__law_hole h3__law_hole h4__law_hole
  have B__law_hole := F__law_hole.binds (ps := ps__law_hole) fun _ _ _ _ _ _ us hl => match us, hl with | [_, _], _ => rfl
  have F__law_odd := fun_mk (st := s__law_odd) h2__law_odd h3__law_odd h4__law_odd
  have B__law_odd := F__law_odd.binds (ps := ps__law_odd) fun _ _ _ _ _ _ us hl => match us, hl with | [_], _ => rfl
  have F__law_is_text := fun_mk (st := s__law_is_text) h2__law_is_text h3__law_is_text h4__law_is_text
  have B__law_is_text := F__law_is_text.binds (ps := ps__law_is_text) fun _ _ _ _ _ _ us hl => match us, hl with | [_], _ => rfl
  have F__law_is_integer := fun_mk (st := s__law_is_integer) h2__law_is_integer h3__law_is_integer h4__law_is_integer
  have B__law_is_integer := F__law_is_integer.binds (ps := ps__law_is_integer) fun _ _ _ _ _ _ us hl => match us, hl with | [_], _ => rfl
  have F__law_are_signs := fun_mk (st := s__law_are_signs) h2__law_are_signs h3__law_are_signs h4__law_are_signs
  have B__law_are_signs := F__law_are_signs.binds (ps := ps__law_are_signs) fun _ _ _ _ _ _ us hl => match us, hl with | [_], _ => rfl
  have F__law_told := fun_mk (st := s__law_told) h2__law_told h3__law_told h4__law_told
  have B__law_told := F__law_told.binds (ps := ps__law_told) fun _ _ _ _ _ _ us hl => match us, hl with | [_], _ => rfl
  have F__law_told_alone := fun_mk (st := s__law_told_alone) h2__law_told_alone h3__law_told_alone h4__law_told_alone
  have B__law_told_alone := F__law_told_alone.binds (ps := ps__law_told_alone) fun _ _ _ _ _ _ us hl => match us, hl with | [_, _, _], _ => rfl
  have F__law_is_run := fun_mk (st := s__law_is_run) h2__law_is_run h3__law_is_run h4__law_is_run
  have B__law_is_run := F__law_is_run.binds (ps := ps__law_is_run) fun _ _ _ _ _ _ us hl => match us, hl with | [_], _ => rfl
  have F__law_spoilt := fun_mk (st := s__law_spoilt) h2__law_spoilt h3__law_spoilt h4__law_spoilt
  have B__law_spoilt := F__law_spoilt.binds (ps := ps__law_spoilt) fun _ _ _ _ _ _ us hl => match us, hl with | [_, _], _ => rfl
  have F__law_right := fun_mk (st := s__law_right) h2__law_right h3__law_right h4__law_right
  have B__law_right := F__law_right.binds (ps := ps__law_right) fun _ _ _ _ _ _ us hl => match us, hl with | [_], _ => rfl
  have F_law := fun_mk (st := s_law) h2_law h3_law h4_law
  have B_law := F_law.binds (ps := ps_law) fun _ _ _ _ _ _ us hl => match us, hl with | [_], _ => rfl
  let T : Tx G w mg := {
    a_is_integer := a_is_integer, d_is_integer := _, F_is_integer := F_is_integer, b_is_integer := B_is_integer, m_is_integer := PySem.W.mg_of X N h1_is_integer,
    a_is_sign := a_is_sign, d_is_sign := _, F_is_sign := F_is_sign, b_is_sign := B_is_sign, m_is_sign := PySem.W.mg_of X N h1_is_sign,
    a_is_text := a_is_text, d_is_text := _, F_is_text := F_is_text, b_is_text := B_is_text, m_is_text := PySem.W.mg_of X N h1_is_text,
    a_are_signs := a_are_signs, d_are_signs := _, F_are_signs := F_are_signs, b_are_signs := B_are_signs, m_are_signs := PySem.W.mg_of X N h1_are_signs,
    a_is_run := a_is_run, d_is_run := _, F_is_run := F_is_run, b_is_run := B_is_run, m_is_run := PySem.W.mg_of X N h1_is_run,
    a_Hole___init__ := a_Hole___init__, d_Hole___init__ := _, F_Hole___init__ := F_Hole___init__,
    a_Hole_of := a_Hole_of, d_Hole_of := _, F_Hole_of := F_Hole_of, b_Hole_of := B_Hole_of,
    a_Hole_runs := a_Hole_runs, d_Hole_runs := _, F_Hole_runs := F_Hole_runs, b_Hole_runs := B_Hole_runs,
    a_Hole___eq__ := a_Hole___eq__, d_Hole___eq__ := _, F_Hole___eq__ := F_Hole___eq__, b_Hole___eq__ := B_Hole___eq__,
    a_Hole___len__ := a_Hole___len__, d_Hole___len__ := _, F_Hole___len__ := F_Hole___len__, b_Hole___len__ := B_Hole___len__,
    a_Hole___str__ := a_Hole___str__, d_Hole___str__ := _, F_Hole___str__ := F_Hole___str__, b_Hole___str__ := B_Hole___str__,
    a__law_dice := a__law_dice, d__law_dice := _, F__law_dice := F__law_dice, b__law_dice := B__law_dice, m__law_dice := PySem.W.mg_of X N h1__law_dice,
    a__law_roll := a__law_roll, d__law_roll := _, F__law_roll := F__law_roll, b__law_roll := B__law_roll, m__law_roll := PySem.W.mg_of X N h1__law_roll,
    a__law_one_of := a__law_one_of, d__law_one_of := _, F__law_one_of := F__law_one_of, b__law_one_of := B__law_one_of, m__law_one_of := PySem.W.mg_of X N h1__law_one_of,
    a__law_mixed := a__law_mixed, d__law_mixed := _, F__law_mixed := F__law_mixed, b__law_mixed := B__law_mixed, m__law_mixed := PySem.W.mg_of X N h1__law_mixed,
    a__law_all_signs := a__law_all_signs, d__law_all_signs := _, F__law_all_signs := F__law_all_signs, b__law_all_signs := B__law_all_signs, m__law_all_signs := PySem.W.mg_of X N h1__law_all_signs,
    a__law_signs := a__law_signs, d__law_signs := _, F__law_signs := F__law_signs, b__law_signs := B__law_signs, m__law_signs := PySem.W.mg_of X N h1__law_signs,
    a__law_run := a__law_run, d__law_run := _, F__law_run := F__law_run, b__law_run := B__law_run, m__law_run := PySem.W.mg_of X N h1__law_run,
    a__law_hole := a__law_hole, d__law_hole := _, F__law_hole := F__law_hole, b__law_hole := B__law_hole, m__law_hole := PySem.W.mg_of X N h1__law_hole,
    a__law_odd := a__law_odd, d__law_odd := _, F__law_odd := F__law_odd, b__law_odd := B__law_odd, m__law_odd := PySem.W.mg_of X N h1__law_odd,
    a__law_is_text := a__law_is_text, d__law_is_text := _, F__law_is_text := F__law_is_text, b__law_is_text := B__law_is_text, m__law_is_text := PySem.W.mg_of X N h1__law_is_text,
    a__law_is_integer := a__law_is_integer, d__law_is_integer := _, F__law_is_integer := F__law_is_integer, b__law_is_integer := B__law_is_integer, m__law_is_integer := PySem.W.mg_of X N h1__law_is_integer,
    a__law_are_signs := a__law_are_signs, d__law_are_signs := _, F__law_are_signs := F__law_are_signs, b__law_are_signs := B__law_are_signs, m__law_are_signs := PySem.W.mg_of X N h1__law_are_signs,
    a__law_told := a__law_told, d__law_told := _, F__law_told := F__law_told, b__law_told := B__law_told, m__law_told := PySem.W.mg_of X N h1__law_told,
    a__law_told_alone := a__law_told_alone, d__law_told_alone := _, F__law_told_alone := F__law_told_alone, b__law_told_alone := B__law_told_alone, m__law_told_alone := PySem.W.mg_of X N h1__law_told_alone,
    a__law_is_run := a__law_is_run, d__law_is_run := _, F__law_is_run := F__law_is_run, b__law_is_run := B__law_is_run, m__law_is_run := PySem.W.mg_of X N h1__law_is_run,
    a__law_spoilt := a__law_spoilt, d__law_spoilt := _, F__law_spoilt := F__law_spoilt, b__law_spoilt := B__law_spoilt, m__law_spoilt := PySem.W.mg_of X N h1__law_spoilt,
    a__law_right := a__law_right, d__law_right := _, F__law_right := F__law_right, b__law_right := B__law_right, m__law_right := PySem.W.mg_of X N h1__law_right,
    a_law := a_law, d_law := _, F_law := F_law, b_law := B_law, m_law := PySem.W.mg_of X N h1_law,
    m_DressError := PySem.W.mg_of X N m_DressError, x_DressError := x_DressError, k_DressError := k_DressError, b_DressError := b_DressError, t_DressError := t_DressError, i_DressError := i_DressError,
    m_InvalidHole := PySem.W.mg_of X N m_InvalidHole, x_InvalidHole := x_InvalidHole, k_InvalidHole := k_InvalidHole, b_InvalidHole := b_InvalidHole, t_InvalidHole := t_InvalidHole, i_InvalidHole := i_InvalidHole,
    m_Hole := PySem.W.mg_of X N m_Hole, ci_Hole := clsB_ok cb_Hole, mk_Hole := ⟨mk_Hole, mi_Hole, mf_Hole, kp_Hole⟩,
    na_Hole_own_runs := na_Hole_own_runs,
    ne_Hole := ne_Hole,
    at_Hole___eq__ := at_Hole___eq__, fn_Hole___eq__ := fn_Hole___eq__,
    at_Hole___len__ := at_Hole___len__, fn_Hole___len__ := fn_Hole___len__,
    at_Hole___str__ := at_Hole___str__, fn_Hole___str__ := fn_Hole___str__,
    pr_Hole_runs := ⟨_, pa_Hole_runs, pg_Hole_runs, pt_Hole_runs, _, pr_Hole_runs⟩,
    cm_Hole_of := ⟨_, _, ⟨rd_Hole, rg_Hole⟩, ca_Hole_of, ⟨_, cr_Hole_of⟩, cf_Hole_of⟩,
    e_InvalidHole_InvalidHole := s_InvalidHole_InvalidHole,
    t_SIGNS := t_SIGNS, m_SIGNS := PySem.W.mg_of X N m_SIGNS,
    t_GREATEST := t_GREATEST, m_GREATEST := PySem.W.mg_of X N m_GREATEST,
    t_MAX_RUNS := t_MAX_RUNS, m_MAX_RUNS := PySem.W.mg_of X N m_MAX_RUNS,
    t_MAX_COUNT := t_MAX_COUNT, m_MAX_COUNT := PySem.W.mg_of X N m_MAX_COUNT,
    n_len := PySem.W.mg_none_of X N n_len,
    n_isinstance := PySem.W.mg_none_of X N n_isinstance,
    n_all := PySem.W.mg_none_of X N n_all,
    n_str := PySem.W.mg_none_of X N n_str,
    n_int := PySem.W.mg_none_of X N n_int,
    n_bool := PySem.W.mg_none_of X N n_bool,
    n_abs := PySem.W.mg_none_of X N n_abs,
    n_max := PySem.W.mg_none_of X N n_max,
    n_min := PySem.W.mg_none_of X N n_min,
    n_range := PySem.W.mg_none_of X N n_range,
    n_tuple := PySem.W.mg_none_of X N n_tuple,
    n_list := PySem.W.mg_none_of X N n_list,
    n_sorted := PySem.W.mg_none_of X N n_sorted,
    n_zip := PySem.W.mg_none_of X N n_zip,
    n_repr := PySem.W.mg_none_of X N n_repr,
    n_set := PySem.W.mg_none_of X N n_set }
  refine ⟨PySem.W.fnOf "law" "law" (defArgs s_law) (defBody s_law) (defScope s_law) .none kV_law dc_law pm_law an_law cd_law ct_law, [], spP G 1 false sp_law, fun p hp => ?_, fun p hp => ?_, fun p hp => ?_, fun s v => .of_eq rfl, fun H a ns hl ht hS => ?_, fun base _ _ TB => ?_⟩
  · cases hp
  · cases hp
  · cases hp
  · exact entry_ok hS ht (by rw [gT]; rfl) (entry_law hl)
  · exact ok_law T
theorem walk {l : PySem.W.OpenLaw} {q : Program} {loose : List Str} {XP : (Str → Option Value) → Heap → Prop} {YP : World → Heap → Prop} {d : DefRec} {K : Params → PySem.W.Frag} (hn : l.most = some 63) (hdf : d.params.defaults = [])
    (hY : ∀ (w : World) (h : Heap), YP w h → (K w.params).In h)
    (F : ∀ (w : World) (mg : Str → Option Value) (fa : Addr) (h : Heap), YP w h → (K w.params).In h → h.Ns mainGlobals mg → mg d.name = some (.ref fa) →
      ∃ (fd : FuncData) (cs : List (Addr × Addr)) (sp : Sp), (∀ p ∈ cs, h.get? p.2 = some { cls := .none, data := .fields #[] }) ∧ (∀ p ∈ cs, (K w.params).lookup p.2 = none) ∧ (∀ p ∈ cs, PySem.W.CodeHd h p.1 p.2) ∧ (∀ (s : Shared) (u : Value), BindsTo s fd ⟨[u], []⟩ [("script", u)]) ∧
        (∀ (H : Hp) (a : Addr) (ns : List Int), ns.length ≤ 63 → (∀ p ∈ cs, H p.2 = some (.tbl #[])) → SqL (K w.params) H a (ns.map V.int) → sp [.ref a] H (fun v _ => v = .bl true) fun _ _ _ => False) ∧
        ∀ base : Heap, (K w.params).In base → base.Ns mainGlobals mg → (∀ p ∈ cs, LamX.TabB base mg p.1 p.2) → FnG l.prog w (K w.params) mg base CX0 10 fa fd ["script"] sp) :
    PySem.W.WalkO q loose XP YP l.row.toRowW d [] (fun f vs => PySem.call f vs) :=
  walk_ofTG (n := 63) (k := 10) (x := "script") hn (by decide) hdf ⟨rfl, by decide, by decide⟩ hY F
end Pu
open PySem PySem.W PyProof.Rows
set_option maxRecDepth 100000 in
set_option maxHeartbeats 0 in
theorem PySem.Challenge.cw_cleandress_k02_holes_as_values_holds : PySem.Challenge.rw_cleandress_k02_holes_as_values.Holds := by
  w_on; o_law; k_head; (case hw => w_witness2)
  k_fill
  refine Pu.walk (l := PySem.Challenge.rw_cleandress_k02_holes_as_values) rfl rfl (fun w h Y => PySem.W.kIn_of Y) ?F
  case F =>
    intro w mg fa h Y KX G hmg
    refine' Pu.all_mk  KX G hmg ?h1_is_integer ?h2_is_integer ?h3_is_integer ?h4_is_integer ?h1_is_sign ?h2_is_sign ?h3_is_sign ?h4_is_sign ?h1_is_text ?h2_is_text ?h3_is_text ?h4_is_text ?h1_are_signs ?h2_are_signs ?h3_are_signs ?h4_are_signs ?h1_is_run ?h2_is_run ?h3_is_run ?h4_is_run ?h2_Hole___init__ ?h3_Hole___init__ ?h4_Hole___init__ ?h2_Hole_of ?h3_Hole_of ?h4_Hole_of ?h2_Hole_runs ?h3_Hole_runs ?h4_Hole_runs ?h2_Hole___eq__ ?h3_Hole___eq__ ?h4_Hole___eq__ ?h2_Hole___len__ ?h3_Hole___len__ ?h4_Hole___len__ ?h2_Hole___str__ ?h3_Hole___str__ ?h4_Hole___str__ ?h1__law_dice ?h2__law_dice ?h3__law_dice ?h4__law_dice ?h1__law_roll ?h2__law_roll ?h3__law_roll ?h4__law_roll ?h1__law_one_of ?h2__law_one_of ?h3__law_one_of ?h4__law_one_of ?h1__law_mixed ?h2__law_mixed ?h3__law_mixed ?h4__law_mixed ?h1__law_all_signs ?h2__law_all_signs ?h3__law_all_signs ?h4__law_all_signs ?h1__law_signs ?h2__law_signs ?h3__law_signs ?h4__law_signs ?h1__law_run ?h2__law_run ?h3__law_run ?h4__law_run ?h1__law_hole ?h2__law_hole ?h3__law_hole ?h4__law_hole ?h1__law_odd ?h2__law_odd ?h3__law_odd ?h4__law_odd ?h1__law_is_text ?h2__law_is_text ?h3__law_is_text ?h4__law_is_text ?h1__law_is_integer ?h2__law_is_integer ?h3__law_is_integer ?h4__law_is_integer ?h1__law_are_signs ?h2__law_are_signs ?h3__law_are_signs ?h4__law_are_signs ?h1__law_told ?h2__law_told ?h3__law_told ?h4__law_told ?h1__law_told_alone ?h2__law_told_alone ?h3__law_told_alone ?h4__law_told_alone ?h1__law_is_run ?h2__law_is_run ?h3__law_is_run ?h4__law_is_run ?h1__law_spoilt ?h2__law_spoilt ?h3__law_spoilt ?h4__law_spoilt ?h1__law_right ?h2__law_right ?h3__law_right ?h4__law_right ?h1_law ?h2_law ?h3_law ?h4_law ?m_DressError ?x_DressError ?k_DressError ?b_DressError ?t_DressError ?i_DressError ?m_InvalidHole ?x_InvalidHole ?k_InvalidHole ?b_InvalidHole ?t_InvalidHole ?i_InvalidHole ?m_Hole ?cb_Hole ?na_Hole_own_runs ?mk_Hole ?mi_Hole ?mf_Hole ?kp_Hole ?ne_Hole ?at_Hole___eq__ ?fn_Hole___eq__ ?at_Hole___len__ ?fn_Hole___len__ ?at_Hole___str__ ?fn_Hole___str__ ?pa_Hole_runs ?pg_Hole_runs ?pt_Hole_runs ?pr_Hole_runs ?rd_Hole ?rg_Hole ?ca_Hole_of ?cr_Hole_of ?cf_Hole_of ?e_InvalidHole_InvalidHole ?m_SIGNS ?m_GREATEST ?m_MAX_RUNS ?m_MAX_COUNT ?n_len ?n_isinstance ?n_all ?n_str ?n_int ?n_bool ?n_abs ?n_max ?n_min ?n_range ?n_tuple ?n_list ?n_sorted ?n_zip ?n_repr ?n_set
    (case h1_is_integer => k_is)
    (case h2_is_integer => k_is)
    (case h3_is_integer => k_is)
    (case h4_is_integer => k_is)
    (case h1_is_sign => k_is)
    (case h2_is_sign => k_is)
    (case h3_is_sign => k_is)
    (case h4_is_sign => k_is)
    (case h1_is_text => k_is)
    (case h2_is_text => k_is)
    (case h3_is_text => k_is)
    (case h4_is_text => k_is)
    (case h1_are_signs => k_is)
    (case h2_are_signs => k_is)
    (case h3_are_signs => k_is)
    (case h4_are_signs => k_is)
    (case h1_is_run => k_is)
    (case h2_is_run => k_is)
    (case h3_is_run => k_is)
    (case h4_is_run => k_is)
    (case h1__law_dice => k_is)
    (case h2__law_dice => k_is)
    (case h3__law_dice => k_is)
    (case h4__law_dice => k_is)
    (case h1__law_roll => k_is)
    (case h2__law_roll => k_is)
    (case h3__law_roll => k_is)
    (case h4__law_roll => k_is)
    (case h1__law_one_of => k_is)
    (case h2__law_one_of => k_is)
    (case h3__law_one_of => k_is)
    (case h4__law_one_of => k_is)
    (case h1__law_mixed => k_is)
    (case h2__law_mixed => k_is)
    (case h3__law_mixed => k_is)
    (case h4__law_mixed => k_is)
    (case h1__law_all_signs => k_is)
    (case h2__law_all_signs => k_is)
    (case h3__law_all_signs => k_is)
    (case h4__law_all_signs => k_is)
    (case h1__law_signs => k_is)
    (case h2__law_signs => k_is)
    (case h3__law_signs => k_is)
    (case h4__law_signs => k_is)
    (case h1__law_run => k_is)
    (case h2__law_run => k_is)
    (case h3__law_run => k_is)
    (case h4__law_run => k_is)
    (case h1__law_hole => k_is)
    (case h2__law_hole => k_is)
    (case h3__law_hole => k_is)
    (case h4__law_hole => k_is)
    (case h1__law_odd => k_is)
    (case h2__law_odd => k_is)
    (case h3__law_odd => k_is)
    (case h4__law_odd => k_is)
    (case h1__law_is_text => k_is)
    (case h2__law_is_text => k_is)
    (case h3__law_is_text => k_is)
    (case h4__law_is_text => k_is)
    (case h1__law_is_integer => k_is)
    (case h2__law_is_integer => k_is)
    (case h3__law_is_integer => k_is)
    (case h4__law_is_integer => k_is)
    (case h1__law_are_signs => k_is)
    (case h2__law_are_signs => k_is)
    (case h3__law_are_signs => k_is)
    (case h4__law_are_signs => k_is)
    (case h1__law_told => k_is)
    (case h2__law_told => k_is)
    (case h3__law_told => k_is)
    (case h4__law_told => k_is)
    (case h1__law_told_alone => k_is)
    (case h2__law_told_alone => k_is)
    (case h3__law_told_alone => k_is)
    (case h4__law_told_alone => k_is)
    (case h1__law_is_run => k_is)
    (case h2__law_is_run => k_is)
    (case h3__law_is_run => k_is)
    (case h4__law_is_run => k_is)
    (case h1__law_spoilt => k_is)
    (case h2__law_spoilt => k_is)
    (case h3__law_spoilt => k_is)
    (case h4__law_spoilt => k_is)
    (case h1__law_right => k_is)
    (case h2__law_right => k_is)
    (case h3__law_right => k_is)
    (case h4__law_right => k_is)
    (case h1_law => k_is)
    (case h2_law => k_is)
    (case h3_law => k_is)
    (case h4_law => k_is)
    (case m_DressError => k_is)
    (case x_DressError => k_exc)
    (case k_DressError => k_is)
    (case b_DressError => k_is)
    (case t_DressError => k_is)
    (case i_DressError => k_is)
    (case m_InvalidHole => k_is)
    (case x_InvalidHole => k_exc)
    (case k_InvalidHole => k_is)
    (case b_InvalidHole => k_is)
    (case t_InvalidHole => k_is)
    (case i_InvalidHole => k_is)
    (case m_Hole => k_is)
    (case cb_Hole => kernel_rfl)
    (case na_Hole_own_runs => k_is)
    (case mk_Hole => k_is)
    (case mi_Hole => k_is)
    (case mf_Hole => k_is)
    (case kp_Hole => k_is)
    (case ne_Hole => k_is)
    (case at_Hole___eq__ => k_is)
    (case fn_Hole___eq__ => k_is)
    (case at_Hole___len__ => k_is)
    (case fn_Hole___len__ => k_is)
    (case at_Hole___str__ => k_is)
    (case fn_Hole___str__ => k_is)
    (case pa_Hole_runs => k_is)
    (case pg_Hole_runs => k_is)
    (case pt_Hole_runs => k_is)
    (case pr_Hole_runs => k_is)
    (case rd_Hole => k_is)
    (case rg_Hole => k_is)
    (case ca_Hole_of => k_is)
    (case cr_Hole_of => k_is)
    (case cf_Hole_of => k_is)
    (case e_InvalidHole_InvalidHole => kernel_rfl)
    (case m_SIGNS => k_is)
    (case m_GREATEST => k_is)
    (case m_MAX_RUNS => k_is)
    (case m_MAX_COUNT => k_is)
    (case n_len => k_is)
    (case n_isinstance => k_is)
    (case n_all => k_is)
    (case n_str => k_is)
    (case n_int => k_is)
    (case n_bool => k_is)
    (case n_abs => k_is)
    (case n_max => k_is)
    (case n_min => k_is)
    (case n_range => k_is)
    (case n_tuple => k_is)
    (case n_list => k_is)
    (case n_sorted => k_is)
    (case n_zip => k_is)
    (case n_repr => k_is)
    (case n_set => k_is)
    (case h2_Hole___init__ => k_is)
    (case h3_Hole___init__ => k_is)
    (case h4_Hole___init__ => k_is)
    (case h2_Hole_of => k_is)
    (case h3_Hole_of => k_is)
    (case h4_Hole_of => k_is)
    (case h2_Hole_runs => k_is)
    (case h3_Hole_runs => k_is)
    (case h4_Hole_runs => k_is)
    (case h2_Hole___eq__ => k_is)
    (case h3_Hole___eq__ => k_is)
    (case h4_Hole___eq__ => k_is)
    (case h2_Hole___len__ => k_is)
    (case h3_Hole___len__ => k_is)
    (case h4_Hole___len__ => k_is)
    (case h2_Hole___str__ => k_is)
    (case h3_Hole___str__ => k_is)
    (case h4_Hole___str__ => k_is)
