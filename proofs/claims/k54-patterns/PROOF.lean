import PyProof.Rows.All
import Wide.All
import OpenK.AllK
import Wide.FinOn
import HandS.ForMost
import HandS.Exc
import HandS.WordsExc
import HandS.ExcOwn
import HandS.TupAny
import HandS.IsInst
import HandS.Evl
import HandS.Steps
import HandS.TryMany
import PyProof.ReprRoads
import PyProof.ListStr
import PyProof.Draws
import PyProof.EnumFor
import PyProof.EnumMake
import HandS.Ends
import KE.KLam
import KE.KNestM
import HandS.Lambda
import HandS.EndTab
import HandS.ReplaceLit
import PySem.Challenge.RW_cleandress_k54_patterns_of_paths
set_option Elab.async false
set_option linter.all false
set_option maxRecDepth 100000
set_option maxHeartbeats 4000000
/-! ### rules that the layer lacks -/
namespace Lk
open PySem PySem.Spec PyProof.Rows L2 Evl
def CPowB (i j : Int) : Prop := 0 ≤ j ∧ (Builtin.Int.intBits i : Int) * j ≤ 2 ^ 27
section
variable {X : Cx}
theorem op_powB : OpR X (binaryOp .Pow) (rI CPowB fun i j => .int (i ^ j.toNat)) := opI fun _ _ _ _ _ _ _ hc q => pow_int hc.1 hc.2 q
/-- text * n, 0 ≤ n -/
def repS (x : Str) (n : Nat) : Str := ⟨(List.replicate n x.cps.toList).flatten.toArray⟩
theorem foldl_app (x : Array Nat) : ∀ (n : Nat) (acc : Array Nat), (List.replicate n x).foldl (· ++ ·) acc = acc ++ (List.replicate n x.toList).flatten.toArray
  | 0, acc => by simp
  | n + 1, acc => by
    rw [List.replicate_succ, List.foldl_cons, foldl_app x n, List.replicate_succ, List.flatten_cons]
    apply Array.ext'
    simp
theorem repS_fold (x : Str) (n : Nat) : (⟨(List.replicate n x.cps).foldl (· ++ ·) #[]⟩ : Str) = repS x n := by
  unfold repS
  rw [foldl_app]
  simp
theorem repS_zero (x : Str) : repS x 0 = Str.empty := by simp [repS, Str.empty]
theorem repS_one (x : Str) : repS x 1 = x := by cases x; simp [repS]
theorem op_rep_str : OpR X (binaryOp .Mult) (fun x y H Q => ∃ (z : Str) (n : Nat), x = .str z ∧ y = .int n ∧ z.length * n ≤ 16777216 ∧ n ≤ 16777216 ∧ Q (.str (repS z n)) H) := by
  intro pins s σ H x y v u Q I r1 r2 h
  obtain ⟨z, n, e1, e2, hz, hn, q⟩ := h
  subst e1; subst e2
  obtain ⟨t, rfl⟩ := r1
  obtain ⟨t', rfl⟩ := r2
  by_cases h0 : n = 0
  · subst h0
    exact P.mul_str_none (by omega) (by omega) ⟨.str Str.empty, H, I.tok _, ⟨_, rfl⟩, by rw [← repS_zero z]; exact q⟩
  · have hzl : z.length * n ≤ 16777216 := hz
    refine P.mul_str (by rw [decide_eq_false (show ¬ ((n : Int) < -(2 ^ 63)) by omega), decide_eq_false (show ¬ ((n : Int) ≥ 2 ^ 63) by omega)]; rfl) (fun _ _ => ?_) (fun _ _ => ?_) ?_
    · have h1 : (0 : Int) < n := by omega
      have h2 : (z.length : Int) * n ≤ 16777216 := by
        have h3 : ((z.length * n : Nat) : Int) ≤ ((16777216 : Nat) : Int) := Int.ofNat_le.mpr hzl
        rw [Int.natCast_mul] at h3
        exact h3
      have : (z.length : Int) ≤ (2 ^ 63 - 1) / n := by
        rw [Int.le_ediv_iff_mul_le h1]
        omega
      omega
    · unfold PySem.Builtin.Str.tooLong
      have e := sizeLine_eq
      simp only [Int.toNat_natCast, decide_eq_false_iff_not]
      omega
    · rw [if_neg (by omega)]
      by_cases h3 : ((n : Int) == 1 || z.length == 0) = true
      · rw [if_pos h3]
        refine ⟨.str z, H, I, ⟨t, rfl⟩, ?_⟩
        have : repS z n = z := by
          rcases Bool.or_eq_true _ _ ▸ h3 with h | h
          · have : n = 1 := by have := beq_iff_eq.mp h; omega
            rw [this, repS_one]
          · have h' : z.length = 0 := beq_iff_eq.mp h
            have hz0 : z.cps.toList = [] := by
              have : z.cps.size = 0 := h'
              exact List.eq_nil_of_length_eq_zero (by simpa using this)
            cases z with
            | mk c =>
              simp only at hz0
              simp only [repS, hz0]
              have : c = #[] := by apply Array.ext'; simpa using hz0
              rw [this]
              congr 1
              apply Array.ext'
              simp
        rw [← this]; exact q
      · rw [if_neg h3]
        refine ⟨?_, ⟨.str _, H, I.tok _, ⟨_, rfl⟩, ?_⟩⟩
        · rw [repS_fold]
          have e := sizeLine_eq
          simp only [Int.toNat_natCast, repS, Str.length]
          simp only [List.size_toArray, List.length_flatten, List.map_replicate, List.sum_replicate_nat, Array.length_toList]
          have : z.cps.size * n ≤ 16777216 := hzl
          rw [Nat.mul_comm]; omega
        · rw [repS_fold, Int.toNat_natCast]; exact q
/-! ### list(text) -/
def sgn (c : Nat) : Str := ⟨#[c]⟩
theorem vals_of_get : ∀ {xs : List V} {us : List Value}, xs.length = us.length → (∀ (i : Nat) (x : V) (u : Value), xs[i]? = some x → us[i]? = some u → RelV x u) → Vals xs us
  | [], [], _, _ => .nil
  | [], _ :: _, h, _ => by simp at h
  | _ :: _, [], h, _ => by simp at h
  | x :: xs, u :: us, h, f => .cons (f 0 x u rfl rfl) (vals_of_get (by simpa using h) fun i y w e1 e2 => f (i + 1) y w (by simpa using e1) (by simpa using e2))
theorem items_vals {x : Str} {acc : Array Value} (h : ItemsOf (SignAt x) acc x.cps.size) : Vals (x.cps.toList.map fun c => V.str (sgn c)) acc.toList := by
  refine vals_of_get (by simp [h.1]) fun i y w e1 e2 => ?_
  obtain ⟨c, u, hc, rfl⟩ := h.2 i w (by simpa using e2)
  rw [List.getElem?_map] at e1
  have e3 : x.cps.toList[i]? = some c := by simpa using hc
  rw [e3] at e1
  cases e1
  exact ⟨u, rfl⟩
theorem call_list_str (hc : X.calm = true) : CallR X (.type "list") (fun xs H Q => ∃ z : Str, xs = [.str z] ∧ z.length ≤ sizeLine ∧ ∀ l, H l = none → Q (.ref l) (upd H l (.lst (z.cps.toList.map fun c => .str (sgn c))))) := by
  intro pins s σ H xs us Q I r h
  obtain ⟨z, rfl, hz, q⟩ := h
  obtain ⟨u, rfl, ru⟩ := Vals.one r
  obtain ⟨t, rfl⟩ := ru
  refine PySem.call_list_str (I.ok.hd hc) z t (fun h' tk acc' c' hk hS hacc => ?_) hz
  have hv := items_vals hacc
  have hz' : (z.cps.toList.map fun c => V.str (sgn c)).length ≤ sizeLine := by rw [List.length_map, Array.length_toList]; exact hz
  have ob : ObjOk X.prog X.w (upd H s.heap.objs.size (.lst (z.cps.toList.map fun c => .str (sgn c)))) h' s.heap.objs.size (.lst (z.cps.toList.map fun c => .str (sgn c))) :=
    ⟨hz', acc'.toList, c', hv, by simpa using hS⟩
  exact ⟨.ref s.heap.objs.size, _, I.laid (t' := tk) hk (Nat.le_refl _) ob, rfl, q _ I.fresh⟩
/-! ### repr of data -/
theorem repr_bool_shown (b : Bool) : (PyData.bool b).shown = if b = true then Str.ofString "True" else Str.ofString "False" := by cases b <;> rfl
theorem call_reprS : CallR X (.builtin "repr") (fun xs H Q => (∃ b, xs = [.bl b] ∧ Q (.str (PyData.bool b).shown) H) ∨ (xs = [.non] ∧ Q (.str PyData.none.shown) H) ∨ (∃ z : Str, xs = [.str z] ∧ (PyData.str z).shown.length ≤ sizeLine ∧ Q (.str (PyData.str z).shown) H) ∨ ∃ i : Int, xs = [.int i] ∧ i.natAbs.log2 < 1920 ∧ Q (.str (PyData.int i).shown) H) := by
  intro pins s σ H xs us Q I r h
  rcases h with ⟨b, rfl, q⟩ | ⟨rfl, q⟩ | ⟨z, rfl, hz, q⟩ | ⟨i, rfl, hi, q⟩
  · obtain ⟨u, rfl, ru⟩ := Vals.one r
    cases ru
    exact P.repr_of_bool ⟨.str _, H, I.tok _, ⟨_, rfl⟩, by rw [← repr_bool_shown]; exact q⟩
  · obtain ⟨u, rfl, ru⟩ := Vals.one r
    cases ru
    exact P.repr_of_none ⟨.str _, H, I.tok _, ⟨_, rfl⟩, q⟩
  · obtain ⟨u, rfl, ru⟩ := Vals.one r
    obtain ⟨t, rfl⟩ := ru
    exact P.repr_of_str ⟨.str _, H, I.tok _, ⟨_, rfl⟩, q⟩ hz
  · obtain ⟨u, rfl, ru⟩ := Vals.one r
    obtain ⟨t, rfl⟩ := ru
    exact P.repr_of_int hi ⟨.str _, H, I.tok _, ⟨_, rfl⟩, q⟩
def NoDict : PyData → Prop := fun d => d.hasDict = false
theorem call_reprD (hu : X.A.units + 64 < cLine) (hg : X.A.guards = some []) : CallR X (.builtin "repr") (fun xs H Q => ∃ (a : Addr) (d : PyData), xs = [.ref a] ∧ Dp X.K H (.ref a) d ∧ d.showable = true ∧ d.hasDict = false ∧ d.depth ≤ 60 ∧ d.shown.length ≤ sizeLine ∧ Q (.str d.shown) H) := by
  intro pins s σ H xs us Q I r h
  obtain ⟨a, d, rfl, hd, h1, h2, h3, h4, q⟩ := h
  obtain ⟨u, rfl, ru⟩ := Vals.one r
  obtain ⟨as, r1⟩ := Dp.reads I d _ u hd ru
  cases ru
  exact repr_of_reads' r1 h1 (fun z => by rw [h2] at z; cases z) hg (by omega) (fun _ _ e => e) (fun h' u tk hk => ⟨.str _, H, I.kept (t' := tk) hk, ⟨_, rfl⟩, q⟩) h4
end
/-! ### walks of texts -/
theorem for_str {x : Str} {g : TG} {tb : TS} {D : Ends} {σ : L2.St} {H : Hp} (Pv : Nat → L2.St → Hp → Prop) (h0 : Pv 0 σ H)
    (hs : ∀ i c σ H, x.cps.toList[i]? = some c → Pv i σ H → g (.str (sgn c)) σ H fun σ2 H2 => tb { D with nx := Pv (i + 1), ct := Pv (i + 1), bk := D.nx } σ2 H2) (hd : ∀ σ H, Pv x.cps.toList.length σ H → D.nx σ H) :
    ∃ W : Nat → Nat → L2.St → Hp → Prop, (∃ m, W 0 m σ H) ∧ ∀ i m σ H, W i m σ H →
      ((Its x).stop i H ∧ D.nx σ H) ∨ ((Its x).go i H ∧ ∃ N : L2.St → Hp → Prop, (∀ σ' H', N σ' H' → ∃ m', m' < m ∧ W (i + 1) m' σ' H') ∧ ∀ x' H', (Its x).yld i H x' H' → g x' σ H' fun σ2 H2 => tb { D with nx := N, ct := N, bk := D.nx } σ2 H2) := by
  refine ⟨fun i m σ H => m = x.cps.toList.length - i ∧ i ≤ x.cps.toList.length ∧ Pv i σ H, ⟨_, rfl, Nat.zero_le _, h0⟩, ?_⟩
  rintro i m σ H ⟨rfl, hi, p⟩
  by_cases hlt : i < x.cps.toList.length
  · refine .inr ⟨by simpa [Its] using hlt, Pv (i + 1), fun σ' H' q => ⟨_, by omega, rfl, hlt, q⟩, ?_⟩
    rintro x' H' ⟨e, c, hc, rfl⟩
    subst e
    exact hs i c σ _ (by simpa using hc) p
  · have e : i = x.cps.toList.length := by omega
    subst e
    exact .inl ⟨by simp [Its], hd σ H p⟩
theorem lc_str {x : Str} {g : TG} {tt : TT} {te : TE} {vs : List Nat} {σ : L2.St} {H1 : Hp} {D : Addr} {Qd : Hp → Prop} (Pv : Nat → Hp → Prop) (h0 : Pv 0 (upd H1 D (.lst [])))
    (hs : ∀ i c H, x.cps.toList[i]? = some c → Pv i H → g (.str (sgn c)) (wipe σ vs) H fun σ2 H2 => wipe σ2 vs = wipe σ vs ∧ tt σ2 H2 fun b H3 =>
      if b = true then te σ2 H3 fun y H4 => ∃ acc, H4 D = some (.lst acc) ∧ acc.length < sizeLine ∧ Pv (i + 1) (upd H4 D (.lst (acc ++ [y]))) else Pv (i + 1) H3) (hd : ∀ H, Pv x.cps.toList.length H → Qd H) :
    ∃ W : Nat → Nat → Hp → Prop, (∃ m, W 0 m (upd H1 D (.lst []))) ∧ ∀ i m H, W i m H →
      ((Its x).stop i H ∧ Qd H) ∨ ((Its x).go i H ∧ ∃ Nx : Hp → Prop, (∀ H', Nx H' → ∃ m', m' < m ∧ W (i + 1) m' H') ∧ ∀ x' H', (Its x).yld i H x' H' → g x' (wipe σ vs) H' fun σ2 H2 => wipe σ2 vs = wipe σ vs ∧ tt σ2 H2 fun b H3 =>
        if b = true then te σ2 H3 fun y H4 => ∃ acc, H4 D = some (.lst acc) ∧ acc.length < sizeLine ∧ Nx (upd H4 D (.lst (acc ++ [y]))) else Nx H3) := by
  refine ⟨fun i m H => m = x.cps.toList.length - i ∧ i ≤ x.cps.toList.length ∧ Pv i H, ⟨_, rfl, Nat.zero_le _, h0⟩, ?_⟩
  rintro i m H ⟨rfl, hi, p⟩
  by_cases hlt : i < x.cps.toList.length
  · refine .inr ⟨by simpa [Its] using hlt, Pv (i + 1), fun H' q => ⟨_, by omega, rfl, hlt, q⟩, ?_⟩
    rintro x' H' ⟨e, c, hc, rfl⟩
    subst e
    exact hs i c _ (by simpa using hc) p
  · have e : i = x.cps.toList.length := by omega
    subst e
    exact .inl ⟨by simp [Its], hd H p⟩
/-! ### enumerate(text) -/
def IteS (x : Str) : It :=
  ⟨fun i _ => i < x.cps.size, fun i H v H' => ∃ T c, v = .ref T ∧ H T = none ∧ H' = upd H T (.tup [.int (i : Nat), .str (sgn c)]) ∧ x.cps.toList[i]? = some c, fun i _ => x.cps.size = i⟩
theorem draws_str {prog : Program} {w : World} {A : Around} (hh : A.handled = none) (it : Addr) (x : Str) (t : Tok) : Draws prog w A it [it] x.cps.size (SignAt x) (fun i h => h.IsStrIter it (strIterType x) x t i) := by
  unfold strIterType
  split
  · exact Draws.strAscii hh it x t
  · exact Draws.strWide hh it x t
theorem turn_enumS {P : Program} {w : World} {K : PySem.W.Frag} {elts : List Expr} {kk : Nat} {tpos : Pos} (x : Str) (t : Tok) (e it : Addr) :
    Turn P w K (.Tuple elts kk tpos) (IteS x) [e, it] e (fun i h => (∃ old, IsEnum h e it ((i : Nat) : Int) old) ∧ h.IsStrIter it (strIterType x) x t i ∧ e ≠ it) where
  mem := by simp
  obj := fun i h st b hb => by
    obtain ⟨⟨old, he⟩, ⟨o, ho, hc, hd⟩, _⟩ := st
    rcases (by simpa using hb : b = e ∨ b = it) with z | z
    · rw [z]; exact ⟨_, he, fun v q => nomatch q⟩
    · rw [z]; exact ⟨o, ho, fun v q => by rw [hd] at q; cases q⟩
  keep := fun i h h' st k => by
    obtain ⟨⟨old, he⟩, ⟨o, ho, hc, hd⟩, hne⟩ := st
    exact ⟨⟨old, k e (by simp) _ he⟩, ⟨o, k it (by simp) _ ho, hc, hd⟩, hne⟩
  item := by
    intro X hP hw hK hc i pins s σ H E I hf st hg
    subst hP hw hK
    obtain ⟨⟨old, he⟩, hit, hne⟩ := st
    have hel : e < s.heap.objs.size := Heap.lt_size he
    have hil : it < s.heap.objs.size := by obtain ⟨_, q, _⟩ := hit; exact Heap.lt_size q
    refine wpAny_pyNext_enum_itemD (draws_str (by exact I.ok.hd hc) it x t) he hit hg hne (by simpa using hne) fun u h' tk hu ho hit' hT hsz hk => ?_
    obtain ⟨c, tu, hcx, rfl⟩ := hu
    refine ⟨_, rfl, wpAny_letOwnedTupleGo_enum (s := { s with heap := h', toks := tk + 1 }) ho fun h'' he' sb => ?_⟩
    have hT2 : h''.get? s.heap.objs.size = some { cls := .type "tuple", data := .seq #[.int i tk, .str (sgn c) tu] } := (sb.2 _ (Nat.ne_of_gt hel)).trans hT
    have new : ObjOk X.prog X.w (upd H s.heap.objs.size (.tup [.int (i : Nat), .str (sgn c)])) h'' s.heap.objs.size (.tup [.int (i : Nat), .str (sgn c)]) :=
      ⟨by show 2 ≤ sizeLine; decide, [.int i tk, .str (sgn c) tu], .cons ⟨_, rfl⟩ (.cons ⟨_, rfl⟩ .nil), ⟨_, hT2, rfl, _, rfl⟩⟩
    have I1 : Inv X pins σ (upd H s.heap.objs.size (.tup [.int (i : Nat), .str (sgn c)])) { s with heap := h'', toks := tk + 1 } :=
      I.turnedNew (ch := [e, it]) (fun b ob hb q => (sb.2 b (fun z => hb (by simp [z]))).trans (hk b ob (fun z => hb (by simp [z])) (fun z => hb (by simp [z])) q)) hf (Nat.le_refl _) new
    refine ⟨.ref s.heap.objs.size, _, I1, rfl, ⟨_, c, rfl, I.hok.fresh (Nat.le_refl _), rfl, by simpa using hcx⟩, ⟨⟨.str (sgn c) tu, ?_⟩, ?_, hne⟩, fun b hb => ?_⟩
    · have e1 : ((i + 1 : Nat) : Int) = (i : Int) + 1 := by omega
      rw [e1]; exact he'
    · obtain ⟨o, q1, q2, q3⟩ := hit'
      exact ⟨o, (sb.2 it (Ne.symm hne)).trans q1, q2, q3⟩
    · have hb' : b < s.heap.objs.size := by
        rcases (by simpa using hb : b = e ∨ b = it) with z | z
        · rw [z]; exact hel
        · rw [z]; exact hil
      rw [upd_ne (Nat.ne_of_lt hb')]
      exact (hf b hb).1
  done := by
    intro X hP hw hK hc i pins s σ H E I hf st hg
    subst hP hw hK
    obtain ⟨⟨old, he⟩, hit, hne⟩ := st
    obtain ⟨f0, f1, f2, f3, f4, f5⟩ := hf it (by simp)
    have hg' : x.cps.size = i := hg
    subst hg'
    exact wpAny_pyNext_enum_endD (draws_str (by exact I.ok.hd hc) it x t) he hit fun h' eb => ⟨rfl, I.turned (t' := s.toks) (fun b o hb q => eb b o hb q) f0 f1 f3 f4 f5⟩
  self := fun A i s Q E st h => let ⟨⟨_, he⟩, _⟩ := st; wpAny_pyIter_enum he h
def iEnumS (ta : TA) : TI := fun σ H R => ta σ H fun vs H1 => ∃ x, vs = [.str x] ∧ R (IteS x) H1
theorem pi_enumS {X : Cx} {e : Expr} {ta : TA} {p pos tpos : Pos} {elts : List Expr} {kk : Nat} (hg : Gl X "enumerate") (hm : X.mg "enumerate" = none) (ha : PA X [e] ta) (hs : starEach [e] X.env = [(false, eval e X.env)] := by rfl) :
    PI X (.Tuple elts kk tpos) (.Call (.Name "enumerate" p) [e] [] pos) (iEnumS ta) := by
  refine ⟨fun pins s σ H R I h => ?_⟩
  refine Call_ (ld_blt I hg hm boot_enumerate (PyProof.Rows.callWith_type1 (thn (ha.run pos pins s σ H _ I h) fun us s1 ⟨vs, H1, I1, r1, q1⟩ => ?_) hs rfl))
  obtain ⟨x, ex, q⟩ := q1
  subst ex
  obtain ⟨u, rfl, ru⟩ := Vals.one r1
  obtain ⟨t, rfl⟩ := ru
  refine call_enumerate_str fun h' he hit hsz hk => wpAny_pyIter_enum he ?_
  have I2 : Inv X pins σ H1 { s1 with heap := h' } := I1.kept (t' := s1.toks) hk
  refine ⟨s1.heap.objs.size + 1, [s1.heap.objs.size + 1, s1.heap.objs.size], _, _, H1, rfl, I2, turn_enumS x t (s1.heap.objs.size + 1) s1.heap.objs.size, ⟨⟨.none, he⟩, hit, Nat.succ_ne_self _⟩, fun b hb => ?_, q⟩
  have hle : s1.heap.objs.size ≤ b := by
    rcases (by simpa using hb : b = s1.heap.objs.size + 1 ∨ b = s1.heap.objs.size) with z | z
    · rw [z]; exact Nat.le_add_right _ _
    · rw [z]; exact Nat.le_refl _
  exact I1.fpOk hle (I1.hok.fresh hle)
theorem for_enumS {x : Str} {g : TG} {tb : TS} {D : Ends} {σ : L2.St} {H : Hp} (Pv : Nat → L2.St → Hp → Prop) (h0 : Pv 0 σ H)
    (hs : ∀ i c T σ H, x.cps.toList[i]? = some c → Pv i σ H → H T = none → g (.ref T) σ (upd H T (.tup [.int (i : Nat), .str (sgn c)])) fun σ2 H2 => tb { D with nx := Pv (i + 1), ct := Pv (i + 1), bk := D.nx } σ2 H2) (hd : ∀ σ H, Pv x.cps.toList.length σ H → D.nx σ H) :
    ∃ W : Nat → Nat → L2.St → Hp → Prop, (∃ m, W 0 m σ H) ∧ ∀ i m σ H, W i m σ H →
      ((IteS x).stop i H ∧ D.nx σ H) ∨ ((IteS x).go i H ∧ ∃ N : L2.St → Hp → Prop, (∀ σ' H', N σ' H' → ∃ m', m' < m ∧ W (i + 1) m' σ' H') ∧ ∀ x' H', (IteS x).yld i H x' H' → g x' σ H' fun σ2 H2 => tb { D with nx := N, ct := N, bk := D.nx } σ2 H2) := by
  refine ⟨fun i m σ H => m = x.cps.toList.length - i ∧ i ≤ x.cps.toList.length ∧ Pv i σ H, ⟨_, rfl, Nat.zero_le _, h0⟩, ?_⟩
  rintro i m σ H ⟨rfl, hi, p⟩
  by_cases hlt : i < x.cps.toList.length
  · refine .inr ⟨by simpa [IteS] using hlt, Pv (i + 1), fun σ' H' q => ⟨_, by omega, rfl, hlt, q⟩, ?_⟩
    rintro x' H' ⟨T, c, rfl, hT, rfl, hc⟩
    exact hs i c T σ H hc p hT
  · have e : i = x.cps.toList.length := by omega
    subst e
    exact .inl ⟨by simp [IteS], hd σ H p⟩
/-! ### promises that may lean on no guard being up (repr of lists asks it) -/
section
variable {CXc : CXT} {P : Program} {w : World} {K : PySem.W.Frag} {mg : Str → Option Value} {base : Heap} {k : Nat} {f : Addr} {fd : FuncData} {ps : List Str} {sp : Sp}
structure FnG (P : Program) (w : World) (K : PySem.W.Frag) (mg : Str → Option Value) (base : Heap) (CXc : CXT) (k : Nat) (f : Addr) (fd : FuncData) (ps : List Str) (sp : Sp) : Prop where
  len : ∀ vs H Q E, sp vs H Q E → vs.length = ps.length
  run : ∀ (A : Around) (outer : List Env) (s : Shared) (H : Hp) (args : Args) (us : List Value) (vs : List V) (Q : VK) (E : XK), A.guards = some [] → Room k A → Env0 P w K mg base A outer s H →
    BindsTo s fd args (ps.zip us) → Vals vs us → sp vs H Q E → codeAny (model P w) A (.call (.ref f) args) (CR CXc outer P w H s Q E) s
theorem FnG.of (F : FnOk P w K mg base CXc k f fd ps sp) : FnG P w K mg base CXc k f fd ps sp := ⟨F.len, fun A outer s H args us vs Q E _ => F.run A outer s H args us vs Q E⟩
theorem fn_ofG {name qual : Str} {params : Arguments} {body : List Stmt} {scope : Scope} {dV kV doc pm cdv ct oc : Value} {an od : Option Addr} {osl : Array (Option Value)} {N : List Str}
    (lk : K.lookup f = some ⟨oc, od, .func (PySem.W.fnOf name qual params body scope dV kV doc pm an cdv ct), osl⟩) (hcd : PySem.W.codeIn K cdv qual = true) (S : FnScope N ps scope)
    (len : ∀ vs H Q E, sp vs H Q E → vs.length = ps.length)
    (hbody : ∀ (A : Around) (outer : List Env) (s : Shared) (H : Hp) (vs : List V) (Q : VK) (E : XK), A.guards = some [] → Room k (A.deeper (envOfC qual scope s.heap.objs.size f cdv)) → sp vs H Q E →
      ∃ t, PSs (cxOf CXc P w K mg base N qual scope f cdv A outer s H E) body t ∧ t { nx := fun _ H' => Q .non H', rt := Q } (L2.start N vs) H) :
    FnG P w K mg base CXc (k + 1) f (PySem.W.fnOf name qual params body scope dV kV doc pm an cdv ct) ps sp := by
  constructor
  · exact len
  intro A outer s H args us vs Q E hga hr e0 hb r hsp
  have keepB : ∀ b o, base.get? b = some o → s.heap.get? b = some o := fun b o e => (e0.bs b o e).1
  have KX := e0.mod.kin.keeps keepB
  have lim := e0.mod.nolimit.keeps keepB
  have hk : ∀ y ∈ ps.zip us, scope.names.lookup y.1 = some .local ∨ (scope.names.lookup y.1 = some .cell ∧ ((cellsFrom (s.heap.objs.size + 1) scope.names []).lookup y.1).isSome = true) := by
    rintro ⟨n, v⟩ hy
    rcases S.par n (List.of_mem_zip hy).1 with q | q
    · left; exact q
    · right; exact ⟨q, PySem.W.cellsFrom_some _ _ _ (.inl q)⟩
  refine codeAny_call_function hr.depth (KX _ _ lk) rfl S.co S.gen rfl (PySem.W.codeRec_of KX hcd) (hb _ _ _ _ (wpAny_newFunctionEnv_cells S.kind hk fun env he s1 x => ?_))
  subst he
  refine ⟨lim.keeps x.toInCall.keep, codeAny_func ?_⟩
  obtain ⟨t, ht, hq⟩ := hbody A outer s H vs Q E hga (hr.deeper _) hsp
  have I := inv_start (CX := CXc) (P := P) (w := w) (E := E) S hr.hd e0 (len _ _ _ _ hsp) r x
  refine wpAny_mono (ht.run [] s1 (L2.start N vs) H _ I hq) (fun fl s' hs => ?_) (fun e s' hs => hs)
  match fl, hs with
  | .ret u, ⟨v, σ', H', J, rv, q⟩ => exact ⟨v, H', J.os, J.bare, J.base, J.hok, rv, q⟩
  | .next, ⟨σ', H', J, q⟩ => exact ⟨V.non, H', J.os, J.bare, J.base, J.hok, rfl, q⟩
  | .brk, ⟨_, _, _, q⟩ => exact False.elim q
  | .cont, ⟨_, _, _, q⟩ => exact False.elim q
theorem Fun.okG {x qual : Str} {st : Stmt} {N : List Str} (F : Fun K x qual st f fd) (S : FnScope N ps (defScope st)) (len : ∀ vs H Q E, sp vs H Q E → vs.length = ps.length)
    (hbody : ∀ (cdv : Value) (A : Around) (outer : List Env) (s : Shared) (H : Hp) (vs : List V) (Q : VK) (E : XK), (A.deeper (envOfC qual (defScope st) s.heap.objs.size f cdv)).guards = some [] → Room k (A.deeper (envOfC qual (defScope st) s.heap.objs.size f cdv)) → sp vs H Q E →
      ∃ t, PSs (cxOf CX0 P w K mg base N qual (defScope st) f cdv A outer s H E).nox (defBody st) t ∧ t { nx := fun _ H' => Q .non H', rt := Q } (L2.start N vs) H) : FnG P w K mg base CX0 (k + 1) f fd ps sp := by
  obtain ⟨oc, od, kV, doc, pm, an, cdv, ct, osl, rfl, lk, hcd⟩ := F.ex
  refine fn_ofG lk hcd S len fun A outer s H vs Q E hga hr hsp => ?_
  obtain ⟨t, h, q⟩ := hbody cdv A outer s H vs Q E hga hr hsp
  exact ⟨t, h.nox, q⟩
end
section
variable {X : Cx} {CXc : CXT} {k : Nat} {f : Addr} {fd : FuncData} {ps : List Str} {sp : Sp} {E : XK} {x : Str} {p pos : Pos} {e : Expr} {es : List Expr} {t : TA}
theorem run_fnG {pins : List (Addr × Obj)} {σ : L2.St} {H : Hp} {s : Shared} {Q : VK} {us : List Value} {vs : List V} (F : FnG X.prog X.w X.K X.mg X.base CXc k f fd ps sp) (hga : X.A.guards = some []) (hr : Room k X.A) (hb : Binds X.K fd ps []) (hx : Passes CXc X E)
    (I : Inv X pins σ H s) (r : Vals vs us) (h : sp vs H Q E) : wpAny (model X.prog X.w) X.A (call (.ref f) us) (EP X pins σ Q) X.xe s := by
  have hl : (us ++ []).length = ps.length := by
    rw [List.append_nil, ← r.length]
    exact F.len _ _ _ _ h
  have hb' := hb s us I.kIn hl
  rw [List.append_nil] at hb'
  refine wpAny_call (codeAny_mono (F.run X.A X.stack s H ⟨us, []⟩ us vs Q E hga hr I.env0 hb' r h) fun r s' hq => ?_)
  match r, hq with
  | .error e, hq => exact hx pins σ H s e s' I hq
  | .ok (.ret u), hq => exact I.after hq
theorem pe_callG (F : FnG X.prog X.w X.K X.mg X.base CXc k f fd ps sp) (hga : X.A.guards = some []) (hr : Room k X.A) (hg : Gl X x) (hm : X.mg x = some (.ref f)) (hk : PySem.W.keepIn X.K (.ref f) = true) (hb : Binds X.K fd ps []) (hx : Passes CXc X E)
    (ha : PA X (e :: es) t) (hdb : (x == ("__debug__" : Str)) = false := by decide) (he : starEach (e :: es) X.env = (false, eval e X.env) :: starEach es X.env := by rfl) (hpl : (backTo pos (starEach es X.env)).any (·.1) = false := by rfl) :
    PE X (.Call (.Name x p) (e :: es) [] pos) (tCall sp [] E t) := by
  constructor
  intro pins s σ H Q I h
  refine wpAny_Call_Name_kw (ld_glob I hg hm (PySem.W.callWith_K (h₀ := X.base) I.ok.mod.kin hk (thn (ha.run pos pins s σ H _ I h) ?_) he hpl) hdb)
  rintro us s1 ⟨vs, H1, I1, r, q⟩
  rw [List.append_nil] at q
  exact ⟨I1.kIn, run_fnG F hga hr hb hx I1 r q⟩
end
/-! ### rules by a written K (within a comprehension's block the reading must not name the block) -/
section
variable {X : Cx} {K : PySem.W.Frag}
theorem op_inK (hK : X.K = K := by rfl) : OpR X (compareOp .In) (rIn K false) := hK ▸ op_in_seq
theorem op_notInK (hK : X.K = K := by rfl) : OpR X (compareOp .NotIn) (rIn K true) := hK ▸ op_notIn_seq
theorem ix_listK (hK : X.K = K := by rfl) : IxR X (rIxL K) := hK ▸ ix_list
theorem ix_tupK (hK : X.K = K := by rfl) : IxR X (rIxT K) := hK ▸ ix_tup
theorem ix_seqK (hK : X.K = K := by rfl) : IxR X (rIx K) := hK ▸ ix_seq
theorem sl_listK (hK : X.K = K := by rfl) : SlR X (rSlL K) := hK ▸ sl_list
theorem sl_tupK (hK : X.K = K := by rfl) : SlR X (rSlA K) := hK ▸ sl_tupA
theorem len_seqK (hK : X.K = K := by rfl) : CallR X (.builtin "len") (rLenS K) := hK ▸ call_len_seq
theorem list_ofK (hK : X.K = K := by rfl) : CallR X (.type "list") (rListS K) := hK ▸ call_list_of
def rTupOf (K : PySem.W.Frag) : List V → Hp → VK → Prop := fun xs H Q => ∃ p ys, xs = [.ref p] ∧ ((SqL K H p ys ∧ ∀ l, H l = none → Q (.ref l) (upd H l (.tup ys))) ∨ (SqT K H p ys ∧ Q (.ref p) H))
theorem tuple_ofK (hK : X.K = K := by rfl) : CallR X (.type "tuple") (rTupOf K) := hK ▸ call_tuple_of
theorem allK (hc : X.calm = true) (hK : X.K = K := by rfl) : CallR X (.builtin "all") (rAll K) := hK ▸ cr_all hc
theorem anyK (hc : X.calm = true) (hK : X.K = K := by rfl) : CallR X (.builtin "any") (rAny K) := hK ▸ cr_any hc
theorem isiK (hK : X.K = K := by rfl) : CallR X (.builtin "isinstance") (rIsi K) := hK ▸ call_isi
theorem sortedSK (hK : X.K = K := by rfl) : CallR X (.builtin "sorted") (rSortedS K) := hK ▸ cr_sortedS
theorem eqDK (hu : X.A.units + 64 < cLine) (hK : X.K = K := by rfl) : OpR X (compareOp .Eq) (rEqD K) := hK ▸ op_eqD hu
theorem neDK (hu : X.A.units + 64 < cLine) (hK : X.K = K := by rfl) : OpR X (compareOp .NotEq) (rNeD K) := hK ▸ op_neD hu
def rJoin (K : PySem.W.Frag) : V → List V → Hp → VK → Prop := fun x xs H Q => ∃ a p, ∃ ys : List Str, x = .str a ∧ xs = [.ref p] ∧ (SqL K H p (ys.map V.str) ∨ SqT K H p (ys.map V.str)) ∧
  (ys.map (·.length)).sum + ys.length * a.length ≤ 16777216 ∧ Q (.str (Txt.join a ys)) H
theorem joinK (hK : X.K = K := by rfl) : MtR X "str.join" (rJoin K) := hK ▸ mt_join
theorem pi_listK {tg l : Expr} {t : TE} (h : PE X l t) (hK : X.K = K := by rfl) : PI X tg l (iList K t) := hK ▸ pi_list h
theorem pi_tupK {tg l : Expr} {t : TE} (h : PE X l t) (hK : X.K = K := by rfl) : PI X tg l (iTup K t) := hK ▸ pi_tup h
/-- what a call's written arguments must be for a method's quick road -/
abbrev Few (X : Cx) (e : Expr) (es : List Expr) (cpos : Pos) : Prop :=
  ((backTo cpos (starEach (e :: es) X.env)).all (fun x => !x.1) && (backToKw cpos (keywordEach [] X.env)).all (fun x => x.1.isSome) &&
    decide ((e :: es).length + ([] : List Keyword).length + (if ([] : List Keyword).isEmpty then 0 else 1) < 30)) = true
theorem pe_bmK {o e : Expr} {es : List Expr} {to : TE} {t : TA} {name : Str} {apos cpos : Pos} {T id : String} {r : V → List V → Hp → VK → Prop} (pa : PlainAttrs T) (slot : Slot T name id)
    (hty : typeOf (.builtin id) = pure (.type "method_descriptor")) (hm : MtR X id r) (ho : PE X o to) (ha : PA X (e :: es) t) (h1 : attributeBase o name X.env (eval o X.env) = eval o X.env := by rfl) (h2 : Few X e es cpos := by rfl)
    (h3 : (apos.endLine == cpos.line) = true := by rfl) (h4 : starEach (e :: es) X.env = (false, eval e X.env) :: starEach es X.env := by rfl) (h5 : (backTo cpos (starEach es X.env)).any (·.1) = false := by rfl) (hK : X.K = K := by rfl) :
    PE X (.Call (.Attribute o name apos) (e :: es) [] cpos) (tBM K T r to t) := by
  subst hK
  exact pe_bm pa slot hty hm ho ha h1 h2 h3 h4 h5
theorem pe_bm0K {o : Expr} {to : TE} {name : Str} {apos cpos : Pos} {T id : String} {r : V → List V → Hp → VK → Prop} (pa : PlainAttrs T) (slot : Slot T name id)
    (hty : typeOf (.builtin id) = pure (.type "method_descriptor")) (hm : MtR X id r) (ho : PE X o to) (h1 : attributeBase o name X.env (eval o X.env) = eval o X.env := by rfl)
    (h3 : (apos.endLine == cpos.line) = true := by rfl) (hK : X.K = K := by rfl) : PE X (.Call (.Attribute o name apos) [] [] cpos) (tBM0 K T r to) := by
  subst hK
  exact pe_bm0 pa slot hty hm ho h1 h3
end
/-! ### walks told by the list of their items -/
/-- while I holds J gives the items xs, one after the other -/
structure Feeds (I : Hp → Prop) (J : It) (xs : List V) : Prop where
  go : ∀ i H, I H → i < xs.length → J.go i H
  yld : ∀ i H x H', I H → i < xs.length → J.yld i H x H' → H' = H ∧ xs[i]? = some x
  stop : ∀ i H, I H → i = xs.length → J.stop i H
theorem feeds_str (x : Str) : Feeds (fun _ => True) (Its x) (x.cps.toList.map fun c => V.str (sgn c)) where
  go := fun i H _ h => by simpa [Its] using h
  yld := fun i H v H' _ _ h => by
    obtain ⟨e, c, hc, rfl⟩ := h
    have hc' : x.cps.toList[i]? = some c := by simpa using hc
    exact ⟨e, by rw [List.getElem?_map, hc']; rfl⟩
  stop := fun i H _ h => by rw [h]; simp [Its]
theorem feeds_range (lo : Int) (n : Nat) : Feeds (fun _ => True) (Itr lo n) ((List.range n).map fun i => V.int (lo + (i : Nat))) where
  go := fun i H _ h => by simpa [Itr] using h
  yld := fun i H v H' _ hi h => by
    obtain ⟨e, rfl⟩ := h
    rw [List.length_map, List.length_range] at hi
    exact ⟨e, by rw [List.getElem?_map, List.getElem?_range hi]; rfl⟩
  stop := fun i H _ h => by rw [h]; simp [Itr]
theorem feeds_list (K : PySem.W.Frag) (a : Addr) (xs : List V) : Feeds (fun H => SqL K H a xs) (Itl K a) xs where
  go := fun i H h hi => ⟨xs, xs[i], h, List.getElem?_eq_getElem hi⟩
  yld := fun i H v H' h hi z => ⟨z.1, z.2 xs h⟩
  stop := fun i H h hi => ⟨xs, h, Nat.le_of_eq hi.symm⟩
theorem feeds_tup (K : PySem.W.Frag) (a : Addr) (xs : List V) : Feeds (fun H => SqT K H a xs) (Itt K a) xs where
  go := fun i H h hi => ⟨xs, xs[i], h, List.getElem?_eq_getElem hi⟩
  yld := fun i H v H' h hi z => ⟨z.1, z.2 xs h⟩
  stop := fun i H h hi => ⟨xs, h, Nat.le_of_eq hi.symm⟩
/-- a for over such a walk -/
theorem for_of {I : Hp → Prop} {J : It} {xs : List V} {g : TG} {tb : TS} {D : Ends} {σ : L2.St} {H : Hp} (F : Feeds I J xs) (Pv : Nat → L2.St → Hp → Prop) (h0 : Pv 0 σ H) (hI : ∀ i σ H, Pv i σ H → I H)
    (hs : ∀ i x σ H, xs[i]? = some x → Pv i σ H → g x σ H fun σ2 H2 => tb { D with nx := Pv (i + 1), ct := Pv (i + 1), bk := D.nx } σ2 H2) (hd : ∀ σ H, Pv xs.length σ H → D.nx σ H) :
    ∃ W : Nat → Nat → L2.St → Hp → Prop, (∃ m, W 0 m σ H) ∧ ∀ i m σ H, W i m σ H →
      (J.stop i H ∧ D.nx σ H) ∨ (J.go i H ∧ ∃ N : L2.St → Hp → Prop, (∀ σ' H', N σ' H' → ∃ m', m' < m ∧ W (i + 1) m' σ' H') ∧ ∀ x' H', J.yld i H x' H' → g x' σ H' fun σ2 H2 => tb { D with nx := N, ct := N, bk := D.nx } σ2 H2) := by
  refine ⟨fun i m σ H => m = xs.length - i ∧ i ≤ xs.length ∧ Pv i σ H, ⟨_, rfl, Nat.zero_le _, h0⟩, ?_⟩
  rintro i m σ H ⟨rfl, hi, p⟩
  by_cases hlt : i < xs.length
  · refine .inr ⟨F.go i H (hI _ _ _ p) hlt, Pv (i + 1), fun σ' H' q => ⟨_, by omega, rfl, hlt, q⟩, fun x' H' hy => ?_⟩
    obtain ⟨e, hx⟩ := F.yld i H x' H' (hI _ _ _ p) hlt hy
    subst e
    exact hs i x' σ _ hx p
  · have e : i = xs.length := by omega
    subst e
    exact .inl ⟨F.stop _ H (hI _ _ _ p) rfl, hd σ H p⟩
/-- a comprehension without a test over such a walk, by an invariant -/
theorem lc_of {I : Hp → Prop} {J : It} {xs : List V} {g : TG} {tt : TT} {te : TE} {vs : List Nat} {σ : L2.St} {H1 : Hp} {D : Addr} {Qd : Hp → Prop} (F : Feeds I J xs) (Pv : Nat → Hp → Prop) (h0 : Pv 0 (upd H1 D (.lst []))) (hI : ∀ i H, Pv i H → I H)
    (hs : ∀ i x H, xs[i]? = some x → Pv i H → g x (wipe σ vs) H fun σ2 H2 => wipe σ2 vs = wipe σ vs ∧ tt σ2 H2 fun b H3 =>
      if b = true then te σ2 H3 fun y H4 => ∃ acc, H4 D = some (.lst acc) ∧ acc.length < sizeLine ∧ Pv (i + 1) (upd H4 D (.lst (acc ++ [y]))) else Pv (i + 1) H3) (hd : ∀ H, Pv xs.length H → Qd H) :
    ∃ W : Nat → Nat → Hp → Prop, (∃ m, W 0 m (upd H1 D (.lst []))) ∧ ∀ i m H, W i m H →
      (J.stop i H ∧ Qd H) ∨ (J.go i H ∧ ∃ Nx : Hp → Prop, (∀ H', Nx H' → ∃ m', m' < m ∧ W (i + 1) m' H') ∧ ∀ x' H', J.yld i H x' H' → g x' (wipe σ vs) H' fun σ2 H2 => wipe σ2 vs = wipe σ vs ∧ tt σ2 H2 fun b H3 =>
        if b = true then te σ2 H3 fun y H4 => ∃ acc, H4 D = some (.lst acc) ∧ acc.length < sizeLine ∧ Nx (upd H4 D (.lst (acc ++ [y]))) else Nx H3) := by
  refine ⟨fun i m H => m = xs.length - i ∧ i ≤ xs.length ∧ Pv i H, ⟨_, rfl, Nat.zero_le _, h0⟩, ?_⟩
  rintro i m H ⟨rfl, hi, p⟩
  by_cases hlt : i < xs.length
  · refine .inr ⟨F.go i H (hI _ _ p) hlt, Pv (i + 1), fun H' q => ⟨_, by omega, rfl, hlt, q⟩, fun x' H' hy => ?_⟩
    obtain ⟨e, hx⟩ := F.yld i H x' H' (hI _ _ p) hlt hy
    subst e
    exact hs i x' _ hx p
  · have e : i = xs.length := by omega
    subst e
    exact .inl ⟨F.stop _ H (hI _ _ p) rfl, hd H p⟩
theorem lt_get {α : Type} {l : List α} {i : Nat} {x : α} (h : l[i]? = some x) : i < l.length := (List.getElem?_eq_some_iff.mp h).1
theorem mem_get {α : Type} {l : List α} {i : Nat} {x : α} (h : l[i]? = some x) : x ∈ l := List.mem_of_getElem? h
theorem take_map {α β : Type} {l : List α} {i : Nat} {x : α} (F : α → β) (h : l[i]? = some x) : (l.take (i + 1)).map F = (l.take i).map F ++ [F x] := by
  rw [List.take_succ, h]
  simp
theorem sizeL {n : Nat} (h : n ≤ 1000000) : n ≤ sizeLine := by rw [sizeLine_eq]; omega
/-- .. by the values of its elements (which leave all that is tracked) -/
theorem lc_map {I : Hp → Prop} {J : It} {xs : List V} {te : TE} {i : Nat} {σ : L2.St} {H1 : Hp} {D : Addr} {Qd : Hp → Prop} (F : Feeds I J xs) (f : V → V) (hD : H1 D = none) (hI : ∀ H, Ex H1 H → I H) (hz : xs.length ≤ 1000000)
    (hte : ∀ x ∈ xs, ∀ (H2 : Hp) (Q2 : VK), Ex H1 H2 → (∀ H3, Ex H2 H3 → Q2 (f x) H3) → te ((σ.set i none).set i (some x)) H2 Q2)
    (hq : ∀ H', Ex H1 H' → H' D = some (.lst (xs.map f)) → Qd H') :
    ∃ W : Nat → Nat → Hp → Prop, (∃ m, W 0 m (upd H1 D (.lst []))) ∧ ∀ j m H, W j m H →
      (J.stop j H ∧ Qd H) ∨ (J.go j H ∧ ∃ Nx : Hp → Prop, (∀ H', Nx H' → ∃ m', m' < m ∧ W (j + 1) m' H') ∧ ∀ x' H', J.yld j H x' H' → gName i x' (wipe σ [i]) H' fun σ2 H2 => wipe σ2 [i] = wipe σ [i] ∧ tYes σ2 H2 fun b H3 =>
        if b = true then te σ2 H3 fun y H4 => ∃ acc, H4 D = some (.lst acc) ∧ acc.length < sizeLine ∧ Nx (upd H4 D (.lst (acc ++ [y]))) else Nx H3) := by
  refine lc_of F (fun j H => Ex H1 H ∧ H D = some (.lst ((xs.take j).map f))) ⟨Ex.new hD, upd_same⟩ (fun _ H h => hI H h.1) ?_ (fun H h => hq H h.1 (by rw [h.2, List.take_length]))
  rintro j x H hx ⟨e1, e2⟩
  refine ⟨by simp [wipe], ?_⟩
  refine hte x (mem_get hx) H _ e1 fun H3 e3 => ⟨_, e3 _ _ e2, ?_, ?_, ?_⟩
  · have := lt_get hx
    have := sizeL hz
    rw [List.length_map, List.length_take]
    omega
  · exact Ex.mut (e1.trans e3) hD
  · rw [upd_same, take_map _ hx]
section
variable {X : Cx} {K : PySem.W.Frag}
def rReprD (K : PySem.W.Frag) : List V → Hp → VK → Prop := fun xs H Q => ∃ (a : Addr) (d : PyData), xs = [.ref a] ∧ Dp K H (.ref a) d ∧ d.showable = true ∧ d.hasDict = false ∧ d.depth ≤ 60 ∧ d.shown.length ≤ sizeLine ∧ Q (.str d.shown) H
theorem reprDK (hu : X.A.units + 64 < cLine) (hg : X.A.guards = some []) (hK : X.K = K := by rfl) : CallR X (.builtin "repr") (rReprD K) := hK ▸ call_reprD hu hg
end
/-- a def that is never called keeps a promise that asks what cannot be -/
theorem fn_never {P : Program} {w : World} {K : PySem.W.Frag} {mg : Str → Option Value} {base : Heap} {CXc : CXT} {k : Nat} {f : Addr} {fd : FuncData} {ps : List Str} : FnOk P w K mg base CXc k f fd ps (fun _ _ _ _ => False) :=
  ⟨fun _ _ _ _ h => h.elim, fun _ _ _ _ _ _ _ _ _ _ _ _ _ h => h.elim⟩
end Lk
/-! ### the end of a law row over FnG -/
namespace Lk
open PySem PySem.Spec PyProof.Rows L2
/-- what is asked of the abstract heap at the law's entry: a alone may be tracked, as the script -/
structure Entry (K : PySem.W.Frag) (P : Program) (w : World) (H : Hp) (h : Heap) (a : Addr) (ns : List Int) : Prop where
  only : Only H
  seq : SqL K H a (ns.map V.int)
  ok : HOk P w H h
  just : ∀ b u, H b = some u → b = a
  kout : ∀ u, H a = some u → K.lookup a = none
theorem entry_of {K : PySem.W.Frag} {P : Program} {w : World} {h : Heap} {a : Addr} {vs : List Value} {ns : List Int} (KX : K.In h) (ha : h.get? a = some { cls := .type "list", data := .seq vs.toArray }) (hi : IntsAre vs ns) (hl : ns.length ≤ sizeLine) :
    ∃ H, Entry K P w H h a ns := by
  have rv := vals_ints hi
  cases hk : K.lookup a with
  | some o =>
    have e : some o = some _ := (KX a o hk).symm.trans ha
    cases e
    refine ⟨fun _ => none, fun _ => .inl rfl, .inr ⟨_, vs.toArray, _, hk, rfl, rfl, rfl, ?_, by simpa using rv⟩, (fun b u z => by cases z), (fun b u z => by cases z), (fun u z => by cases z)⟩
    rw [List.size_toArray, hi.length]; exact hl
  | none =>
    refine ⟨upd (fun _ => none) a (.frz { cls := .type "list", data := .seq vs.toArray } (.lst (ns.map V.int))), fun b => ?_, .inl (.inr ⟨_, upd_same⟩), fun b u z => ?_, fun b u z => ?_, fun _ _ => hk⟩
    · by_cases hb : b = a
      · right; rw [hb]; exact ⟨_, _, upd_same⟩
      · left; rw [upd_ne hb]
    · by_cases hb : b = a
      · subst hb
        rw [upd_same] at z
        cases z
        exact ⟨ha, by rw [List.length_map]; exact hl, vs, _, rv, ha⟩
      · rw [upd_ne hb] at z; cases z
    · by_cases hb : b = a
      · exact hb
      · rw [upd_ne hb] at z; cases z
theorem law_callG {P : Program} {w : World} {K : PySem.W.Frag} {mg mb : Str → Option Value} {k : Nat} {fa a : Addr} {fd : FuncData} {x : Str} {sp : Sp} {s₁ : Shared} {vs : List Value} {ns : List Int}
    (KX : K.In s₁.heap) (hns : s₁.heap.Ns mainGlobals mg) (hb : s₁.heap.Ns builtinsNs mb) (hbb : ∀ x : Str, x ≠ "__name__" → mb x = bootBuiltins x) (hlim : s₁.heap.NoLimit) (hg : s₁.gens = #[])
    (ha : s₁.heap.get? a = some { cls := .type "list", data := .seq vs.toArray }) (hi : IntsAre vs ns) (hl : ns.length ≤ sizeLine) (hr : Room k callerA)
    (F : ∀ base : Heap, K.In base → base.Ns mainGlobals mg → FnG P w K mg base CX0 k fa fd [x] sp) (hbind : ∀ (s : Shared) (u : Value), BindsTo s fd ⟨[u], []⟩ [(x, u)])
    (hsp : ∀ H : Hp, Only H → SqL K H a (ns.map V.int) → sp [.ref a] H (fun v _ => v = .bl true) fun _ _ _ => False) :
    codeAny (model P w) callerA (.call (.ref fa) ⟨[.ref a], []⟩) (fun r s' => r = .ok (.ret (.bool true)) ∧ OldK s₁.heap s'.heap ∧ s'.os = s₁.os ∧ AllBare s'.gens) s₁ := by
  obtain ⟨H, En⟩ := entry_of (P := P) (w := w) KX ha hi hl
  have noD : ∀ {b : Addr} {o : Obj} {es : Array DictEntry} {ep : Nat}, s₁.heap.get? b = some o → o.data = .dict es ep → H b = none := by
    intro b o es ep e d
    cases q : H b with
    | none => rfl
    | some u =>
      rw [En.just b u q, ha] at e
      cases e
      cases (show Data.seq vs.toArray _ = Data.dict es ep from d)
  have nsB : ∀ {b : Addr} {m : Str → Option Value}, s₁.heap.Ns b m → (hidT s₁.heap H).Ns b m := by
    rintro b m ⟨o, es, ep, e, d, r⟩
    exact ⟨o, es, ep, hidT_get e (noD e d), d, r⟩
  have kB : K.In (hidT s₁.heap H) := by
    intro b o e
    refine hidT_get (KX b o e) ?_
    cases q : H b with
    | none => rfl
    | some u =>
      have e1 := En.just b u q
      subst e1
      rw [En.kout u q] at e; cases e
  have hM : Mod K mg (hidT s₁.heap H) := by
    obtain ⟨mc, h1, h2⟩ := hlim
    exact ⟨kB, nsB hns, ⟨mb, nsB hb, hbb⟩, ⟨mc, nsB h1, h2⟩⟩
  have e0 : Env0 P w K mg (hidT s₁.heap H) callerA [] s₁ H :=
    ⟨rfl, hM, fun b o e => of_hidT e, Nat.le_of_eq (hidT_size _ _), trivial, fun b hb => (nomatch (show b ∈ ([] : List Addr) from hb)), En.ok, .of_eq hg⟩
  have run := (F _ kB (nsB hns)).run callerA [] s₁ H ⟨[.ref a], []⟩ [.ref a] [.ref a] _ _ rfl hr e0 (hbind s₁ (.ref a)) (.cons rfl .nil) (hsp H En.only En.seq)
  refine codeAny_mono run ?_
  intro r s' h
  match r, h with
  | .error e, h => exact h.elim
  | .ok (.ret u), ⟨v, H', os, bare, un, hok', r', q⟩ =>
    obtain rfl : v = .bl true := q
    obtain rfl : u = Value.bool true := r'
    refine ⟨rfl, OldK.of_keep fun b o e => ?_, os, bare⟩
    cases z : H b with
    | none => exact un.keep b o e z (by intro y; exact nomatch (show b ∈ ([] : List Addr) from y)) (by simp)
    | some u =>
      rcases En.only b with y | ⟨ob, xs, y⟩
      · rw [z] at y; cases y
      · have p1 := (En.ok b _ y).1
        have p2 := (hok' b _ (un.frzs b ob _ y)).1
        rw [p1] at e
        cases e
        exact p2
theorem walk_ofG {l : PySem.W.OpenLaw} {n k : Nat} {q : Program} {loose : List Str} {XP : (Str → Option Value) → Heap → Prop} {YP : World → Heap → Prop} {d : DefRec} {K : Params → PySem.W.Frag} {sp : World → Sp} {x : Str}
    (hn : l.most = some n) (hn2 : n ≤ sizeLine) (hdf : d.params.defaults = []) (hr : Room k callerA) (hY : ∀ (w : World) (h : Heap), YP w h → (K w.params).In h)
    (F : ∀ (w : World) (mg : Str → Option Value) (fa : Addr) (h : Heap), (K w.params).In h → h.Ns mainGlobals mg → mg d.name = some (.ref fa) →
      ∃ fd : FuncData, (∀ (s : Shared) (u : Value), BindsTo s fd ⟨[u], []⟩ [(x, u)]) ∧ ∀ base : Heap, (K w.params).In base → base.Ns mainGlobals mg → FnG l.prog w (K w.params) mg base CX0 k fa fd [x] (sp w))
    (hsp : ∀ (w : World) (H : Hp) (a : Addr) (ns : List Int), ns.length ≤ n → Only H → SqL (K w.params) H a (ns.map V.int) → sp w [.ref a] H (fun v _ => v = .bl true) fun _ _ _ => False) :
    PySem.W.WalkO q loose XP YP l.row.toRowW d [] (fun f vs => PySem.call f vs) := by
  refine Att.attach_call hn hdf ?_
  intro w s₀ s₁ mg mb fa o pm cd doc a vs ns G Y ho hd hcd hmg hobj hints hlen hg
  obtain ⟨fd, hb, hF⟩ := F w mg fa _ (hY w _ Y) G.T.g hmg
  exact law_callG (hY w _ Y) G.T.g G.T.b G.T.builtins G.T.nolimit hg hobj hints (Nat.le_trans hlen hn2) hr hF hb fun H hO hS => hsp w H a ns hlen hO hS
end Lk
/-! ### the mathematics of patterns: plain Lean -/
namespace Fm
inductive Fit : List Nat → List Nat → Prop
  | nil : Fit [] []
  | skip {p t} : Fit p t → Fit (42 :: p) t
  | eat {p t s} : Fit (42 :: p) t → Fit (42 :: p) (s :: t)
  | one {c s p t} : c ≠ 42 → (c = 63 ∨ c = s) → Fit p t → Fit (c :: p) (s :: t)
def mt : List Nat → List Nat → Bool
  | [], t => t.isEmpty
  | c :: p, [] => if c = 42 then mt p [] else false
  | c :: p, s :: t => if c = 42 then (mt p (s :: t) || mt (c :: p) t) else (decide (c = 63 ∨ c = s) && mt p t)
termination_by p t => p.length + t.length
theorem mt_fit : ∀ (n : Nat) (p t : List Nat), p.length + t.length ≤ n → (mt p t = true ↔ Fit p t)
  | n, [], [], _ => by
    constructor
    · intro _; exact .nil
    · intro _; simp [mt]
  | n, [], s :: t, _ => by
    constructor
    · intro h; simp [mt] at h
    · intro h; cases h
  | 0, c :: p, t, h => by simp at h
  | n + 1, c :: p, [], h => by
    have ih := mt_fit n p [] (by simp at h ⊢; omega)
    unfold mt
    by_cases hc : c = 42
    · subst hc
      rw [if_pos rfl, ih]
      constructor
      · exact .skip
      · intro z; cases z with
        | skip z => exact z
    · rw [if_neg hc]
      constructor
      · intro z; cases z
      · intro z; cases z; exact absurd rfl hc
  | n + 1, c :: p, s :: t, h => by
    have h1 := mt_fit n p (s :: t) (by simp at h ⊢; omega)
    have h2 := mt_fit n (c :: p) t (by simp at h ⊢; omega)
    have h3 := mt_fit n p t (by simp at h ⊢; omega)
    unfold mt
    by_cases hc : c = 42
    · subst hc
      rw [if_pos rfl, Bool.or_eq_true, h1, h2]
      constructor
      · rintro (z | z)
        · exact .skip z
        · exact .eat z
      · intro z; cases z with
        | skip z => exact .inl z
        | eat z => exact .inr z
        | one hn _ _ => exact absurd rfl hn
    · rw [if_neg hc, Bool.and_eq_true, h3, decide_eq_true_eq]
      constructor
      · rintro ⟨a, b⟩; exact .one hc a b
      · intro z; cases z with
        | skip _ => exact absurd rfl hc
        | eat _ => exact absurd rfl hc
        | one _ a b => exact ⟨a, b⟩
theorem mt_iff {p t : List Nat} : mt p t = true ↔ Fit p t := mt_fit _ p t (Nat.le_refl _)
theorem Fit.append {p t q u : List Nat} (h : Fit p t) (k : Fit q u) : Fit (p ++ q) (t ++ u) := by
  induction h with
  | nil => exact k
  | skip _ ih => exact .skip ih
  | eat _ ih => exact .eat ih
  | one a b _ ih => exact .one a b ih
theorem Fit.snoc_star {r u : List Nat} (h : Fit r u) (s : Nat) : ∀ q, r = q ++ [42] → Fit r (u ++ [s]) := by
  induction h with
  | nil => intro q e; simp at e
  | @skip p t h ih =>
    intro q e
    cases q with
    | nil =>
      have hp : p = [] := by simpa using e
      subst hp
      cases h
      exact .eat (.skip .nil)
    | cons c q =>
      have hp : p = q ++ [42] := by
        have := e
        simp only [List.cons_append, List.cons.injEq] at this
        exact this.2
      exact .skip (ih q hp)
  | eat _ ih => intro q e; exact .eat (ih q e)
  | @one c s p t a b h ih =>
    intro q e
    cases q with
    | nil =>
      simp only [List.nil_append, List.cons.injEq] at e
      exact absurd e.1 a
    | cons c q =>
      simp only [List.cons_append, List.cons.injEq] at e
      exact .one a b (ih q e.2)
theorem Fit.rev {p t : List Nat} (h : Fit p t) : Fit p.reverse t.reverse := by
  induction h with
  | nil => exact .nil
  | skip _ ih =>
    rw [List.reverse_cons]
    have := ih.append (.skip .nil : Fit [42] [])
    rwa [List.append_nil] at this
  | @eat p t s _ ih =>
    rw [List.reverse_cons] at ih ⊢
    rw [List.reverse_cons]
    exact ih.snoc_star s _ rfl
  | one a b _ ih =>
    rw [List.reverse_cons, List.reverse_cons]
    exact ih.append (.one a b .nil)
theorem fit_rev {p t : List Nat} : Fit p t ↔ Fit p.reverse t.reverse := by
  constructor
  · exact Fit.rev
  · intro h; have := h.rev; rwa [List.reverse_reverse, List.reverse_reverse] at this
theorem mt_rev (p t : List Nat) : mt p.reverse t.reverse = mt p t := by
  rw [Bool.eq_iff_iff, mt_iff, mt_iff]
  exact fit_rev.symm
/-! from the end -/
theorem end_nil (t : List Nat) (s : Nat) : mt [] (t ++ [s]) = false := by simp [mt]
theorem end_star_nil (p : List Nat) : mt (p ++ [42]) [] = mt p [] := by
  rw [← mt_rev, ← mt_rev p []]
  simp [mt]
theorem end_star (p t : List Nat) (s : Nat) : mt (p ++ [42]) (t ++ [s]) = (mt p (t ++ [s]) || mt (p ++ [42]) t) := by
  rw [← mt_rev, ← mt_rev p (t ++ [s]), ← mt_rev (p ++ [42]) t]
  simp [mt]
theorem end_one_nil (p : List Nat) {c : Nat} (h : c ≠ 42) : mt (p ++ [c]) [] = false := by
  rw [← mt_rev]
  simp [mt, h]
theorem end_one (p t : List Nat) {c : Nat} (s : Nat) (h : c ≠ 42) : mt (p ++ [c]) (t ++ [s]) = (decide (c = 63 ∨ c = s) && mt p t) := by
  rw [← mt_rev, ← mt_rev p t]
  simp [mt, h]
/-! what the laws ask besides -/
theorem fit_len {p t : List Nat} (h : Fit p t) (hs : 42 ∉ p) : t.length = p.length := by
  induction h with
  | nil => rfl
  | skip _ _ => exact absurd (List.mem_cons_self) hs
  | eat _ _ => exact absurd (List.mem_cons_self) hs
  | one _ _ _ ih => simp only [List.length_cons]; rw [ih fun z => hs (List.mem_cons_of_mem _ z)]
theorem fit_star (t : List Nat) : Fit [42] t := by
  induction t with
  | nil => exact .skip .nil
  | cons s t ih => exact .eat ih
theorem fit_quests (t : List Nat) : Fit (List.replicate t.length 63) t := by
  induction t with
  | nil => exact .nil
  | cons s t ih => exact .one (by decide) (.inl rfl) ih
def dbl : List Nat → List Nat
  | [] => []
  | c :: p => if c = 42 then 42 :: 42 :: dbl p else c :: dbl p
theorem dbl_fit : ∀ (n : Nat) (p t : List Nat), p.length + t.length ≤ n → (Fit (dbl p) t ↔ Fit p t)
  | n, [], t, _ => Iff.rfl
  | 0, c :: p, t, h => by simp at h
  | n + 1, c :: p, t, h => by
    have hp := dbl_fit n p t (by simp at h ⊢; omega)
    by_cases hc : c = 42
    · subst hc
      have e : dbl (42 :: p) = 42 :: 42 :: dbl p := by simp [dbl]
      have key : ∀ u, Fit (42 :: dbl p) u → Fit (42 :: 42 :: dbl p) u := fun u z => .skip z
      rw [e]
      constructor
      · intro z
        cases t with
        | nil =>
          cases z with
          | skip z => cases z with
            | skip z => exact .skip (hp.mp z)
        | cons s t =>
          have ht := dbl_fit n (42 :: p) t (by simp at h ⊢; omega)
          rw [e] at ht
          cases z with
          | skip z => cases z with
            | skip z => exact .skip (hp.mp z)
            | eat z => exact .eat (ht.mp (.skip z))
            | one a _ _ => exact absurd rfl a
          | eat z => exact .eat (ht.mp z)
          | one a _ _ => exact absurd rfl a
      · intro z
        cases t with
        | nil => cases z with
          | skip z => exact .skip (.skip (hp.mpr z))
        | cons s t =>
          have ht := dbl_fit n (42 :: p) t (by simp at h ⊢; omega)
          rw [e] at ht
          cases z with
          | skip z => exact .skip (.skip (hp.mpr z))
          | eat z => exact .eat (ht.mpr z)
          | one a _ _ => exact absurd rfl a
    · have e : dbl (c :: p) = c :: dbl p := by simp [dbl, hc]
      rw [e]
      cases t with
      | nil =>
        constructor
        · intro z; cases z; exact absurd rfl hc
        · intro z; cases z; exact absurd rfl hc
      | cons s t =>
        have ht := dbl_fit n p t (by simp at h ⊢; omega)
        constructor
        · intro z; cases z with
          | skip _ => exact absurd rfl hc
          | eat _ => exact absurd rfl hc
          | one a b z => exact .one a b (ht.mp z)
        · intro z; cases z with
          | skip _ => exact absurd rfl hc
          | eat _ => exact absurd rfl hc
          | one a b z => exact .one a b (ht.mpr z)
theorem mt_dbl (p t : List Nat) : mt (dbl p) t = mt p t := by
  rw [Bool.eq_iff_iff, mt_iff, mt_iff]
  exact dbl_fit _ p t (Nat.le_refl _)
theorem mt_star (t : List Nat) : mt [42] t = true := mt_iff.mpr (fit_star t)
theorem mt_quests (t : List Nat) : mt (List.replicate t.length 63) t = true := mt_iff.mpr (fit_quests t)
theorem mt_len {p t : List Nat} (hs : 42 ∉ p) (hl : t.length ≠ p.length) : mt p t = false := by
  cases e : mt p t with
  | false => rfl
  | true => exact absurd (fit_len (mt_iff.mp e) hs) hl
end Fm
/-! ### lambdas that are handed to a def of the law -/
namespace Lk
open PySem PySem.Spec PyProof.Rows L2 LamX
section
variable {P : Program} {w : World} {K : PySem.W.Frag} {mg : Str → Option Value} {base : Heap} {k : Nat} {f : Addr} {fd : FuncData} {ps : List Str} {sp : Sp}
/-- a def whose code object is known by its place -/
theorem Fun.okGC {c : Addr} {x qual : Str} {st : Stmt} {N : List Str} (F : Fun K x qual st f fd) (hc : fd.code = .ref c) (S : FnScope N ps (defScope st)) (len : ∀ vs H Q E, sp vs H Q E → vs.length = ps.length)
    (hbody : ∀ (A : Around) (outer : List Env) (s : Shared) (H : Hp) (vs : List V) (Q : VK) (E : XK), (A.deeper (envOfC qual (defScope st) s.heap.objs.size f (.ref c))).guards = some [] → Room k (A.deeper (envOfC qual (defScope st) s.heap.objs.size f (.ref c))) → sp vs H Q E →
      ∃ t, PSs (cxOf CX0 P w K mg base N qual (defScope st) f (.ref c) A outer s H E).nox (defBody st) t ∧ t { nx := fun _ H' => Q .non H', rt := Q } (L2.start N vs) H) : FnG P w K mg base CX0 (k + 1) f fd ps sp := by
  obtain ⟨oc, od, kV, doc, pm, an, cdv, ct, osl, rfl, lk, hcd⟩ := F.ex
  obtain rfl : cdv = .ref c := hc
  refine fn_ofG lk hcd S len fun A outer s H vs Q E hga hr hsp => ?_
  obtain ⟨t, h, q⟩ := hbody A outer s H vs Q E hga hr hsp
  exact ⟨t, h.nox, q⟩
end
section
variable {X : Cx}
/-- x(lambda: body), x a def of the text -/
theorem pe_lamF {T : List (Addr × Str)} {TT : (XK → Hp → VK → Prop) → Hp → VK → Prop} {x a q0 : Str} {st : Stmt} {g c P : Addr} {fd : FuncData} {k : Nat} {Ng : List Str} {params : Arguments} {body : Expr} {scope : Scope} {t : XK → TE} {p lpos pos : Pos}
    (F : Fun X.K x x st g fd) (hg : Gl X x) (hm : X.mg x = some (.ref g)) (hb : L2.Binds X.K fd [a] []) (Sg : FnScope Ng [a] (defScope st)) (hNg : Ng[0]? = some a) (hva : Vis (defScope st) a)
    (hq : X.env.qual = q0) (hG : ∀ cdv, GivesTo X Ng x (defScope st) g cdv (defBody st) a (q0 ++ "<lambda>") TT)
    (TB : TabB X.base X.mg c P) (hcode : X.env.code = .ref c) (hmT : (P, q0 ++ "<lambda>") ∈ T) (hu : ∀ p ∈ T, p.1 = P → p.2 = q0 ++ "<lambda>") (hr : Room (k + 2) X.A) (L : LamS X.env.scope scope) (hdef : defaultsOf params X.env = ([], []))
    (hbind : ∀ (q : Str) (cl : List (Str × Addr)) (pm cv ctv : Value), bindArgs (PySem.W.kla_fn "<lambda>" q params body scope cl pm cv ctv) ⟨[], []⟩ = pure [])
    (hbody : ∀ (A : Around) (outer : List Env) (s : Shared) (H : Hp) (E : XK) (f c' : Addr), Room k (A.deeper (lamEnv X scope s.heap.objs.size f c')) → PE (lamCx X A outer s H E scope f c') body (t E))
    (hdb : (x == ("__debug__" : Str)) = false := by decide) (hd : (a == ("__debug__" : Str)) = false := by decide) (hcd : (a == ("__classdict__" : Str)) = false := by decide) :
    PE X (.Call (.Name x p) [.Lambda params body scope lpos] [] pos) (tLam T TT t) := by
  obtain ⟨oc, od, kV, doc, pm, an, cdv, ct, osl, rfl, lk, hcg⟩ := F.ex
  subst hq
  exact pe_lamcall hg hm F.kp lk hcg hb Sg hNg hva (hG cdv) TB hcode hmT hu hr L hdef hbind hbody hdb hd hcd
/-- what a raising def lets out passes the lambda -/
theorem passLam {A : Around} {outer : List Env} {s : Shared} {H : Hp} {E : XK} {scope : Scope} {f c' : Addr} : Passes (L2.CX X.prog X.w) (lamCx X A outer s H E scope f c') E :=
  passes_call (takes_of rfl rfl rfl rfl) fun _ _ _ _ h => h
/-- try: a() / except e1: return r1 / except e2: return r2 / return r3 -/
def TWord (K : PySem.W.Frag) (C1 C2 : Addr) (r1 r2 r3 : Str) : (XK → Hp → VK → Prop) → Hp → VK → Prop := fun tl H Q =>
  tl (fun cls _ H' => ∃ b, PySem.W.exmOne K cls (.ref C1) = some b ∧ (b = true → Q (.str r1) H') ∧ (b = false → ∃ b2, PySem.W.exmOne K cls (.ref C2) = some b2 ∧ (b2 = true → Q (.str r2) H') ∧ (b2 = false → False))) H fun _ H' => Q (.str r3) H'
theorem word_gives {Ng : List Str} {x a e1 e2 q r1 r2 r3 : Str} {sg : Scope} {g C1 C2 : Addr} {cdg : Value} {j1 j2 j3 : Nat} {p1 p2 p3 p4 p5 p6 p7 p8 p9 p10 p11 p12 p13 p14 : Pos}
    (hg1 : sg.names.lookup e1 = some .globalImplicit) (hm1 : X.mg e1 = some (.ref C1)) (hg2 : sg.names.lookup e2 = some .globalImplicit) (hm2 : X.mg e2 = some (.ref C2)) (hd1 : (e1 == ("__debug__" : Str)) = false := by decide) (hd2 : (e2 == ("__debug__" : Str)) = false := by decide)
    (h0 : ∀ f : Addr, (L2.start Ng [V.ref f])[0]? = some (some (V.ref f))) :
    GivesTo X Ng x sg g cdg [.Try [.Expr (.Call (.Name a p1) [] [] p2) p3] [.ExceptHandler (some (.Name e1 p4)) none [.Return (some (.Constant (.str r1) j1 p5)) p6] p7, .ExceptHandler (some (.Name e2 p8)) none [.Return (some (.Constant (.str r2) j2 p9)) p10] p11] [] [] p12, .Return (some (.Constant (.str r3) j3 p13)) p14]
      a q (TWord X.K C1 C2 r1 r2 r3) := by
  intro f c' s H Q tl act hc h
  have n1 : Gl (cxOf C8.CX0 X.prog X.w X.K X.mg X.base Ng x sg g cdg X.A X.stack s H C8.E0).nox e1 := hg1
  have n2 : Gl (cxOf C8.CX0 X.prog X.w X.K X.mg X.base Ng x sg g cdg X.A X.stack s H C8.E0).nox e2 := hg2
  refine ⟨_, pss_cons (ps_try_many (X := (cxOf C8.CX0 X.prog X.w X.K X.mg X.base Ng x sg g cdg X.A X.stack s H C8.E0).nox)
      (tb := fun W D σ H => ∃ Ech : XK, (∀ cls d σ' H', Ech cls d H' → W cls d σ' H') ∧ σ[0]? = some (some (.ref f)) ∧ H c' = some (CodeO c' q) ∧ tl Ech H fun _ H' => D.nx σ H')
      (l := [(.ref C1, fun _ _ _ => tRet (tC (.str r1))), (.ref C2, fun _ _ _ => tRet (tC (.str r2)))]) rfl rfl takes_none5 (fun W pn xe tk _ => ?_)
      (.cons ⟨n1, hd1, .inl hm1⟩ (fun _ _ _ _ _ _ _ => pss_one (ps_ret pe_str)) (.cons ⟨n2, hd2, .inl hm2⟩ (fun _ _ _ _ _ _ _ => pss_one (ps_ret pe_str)) .nil))) (pss_one (ps_ret pe_str)), ?_⟩
  · refine ⟨fun pins s' σ H' D I h' => ?_⟩
    obtain ⟨Ech, hW, h1, h2, h3⟩ := h'
    exact (pss_one (ps_expr (pos := p3) (act W pn xe Ech p1 p2 tk hW))).run pins s' σ H' D I ⟨h1, h2, h3⟩
  · exact ⟨fun cls _ H' => ∃ b, PySem.W.exmOne X.K cls (.ref C1) = some b ∧ (b = true → Q (.str r1) H') ∧ (b = false → ∃ b2, PySem.W.exmOne X.K cls (.ref C2) = some b2 ∧ (b2 = true → Q (.str r2) H') ∧ (b2 = false → False)),
      fun cls d σ' H' ⟨b, z1, z2, z3⟩ => ⟨b, z1, fun hb a _ => z2 hb, fun hb => let ⟨b2, y1, y2, y3⟩ := z3 hb; ⟨b2, y1, fun hb a _ => y2 hb, fun hb => y3 hb⟩⟩, h0 f, hc, h⟩
end
end Lk
/-! ### the end of a law row over FnG, with tables of code objects -/
namespace Lk
open PySem PySem.Spec PyProof.Rows L2 LamX
/-- the entry's abstract heap with the tables laid over it -/
def overT (cs : List (Addr × Addr)) (H : Hp) : Hp := fun b => if b ∈ cs.map (·.2) then some (.tbl #[]) else H b
theorem overT_in {cs : List (Addr × Addr)} {H : Hp} {b : Addr} (h : b ∈ cs.map (·.2)) : overT cs H b = some (.tbl #[]) := if_pos h
theorem overT_out {cs : List (Addr × Addr)} {H : Hp} {b : Addr} (h : b ∉ cs.map (·.2)) : overT cs H b = H b := if_neg h
theorem law_callTG {P : Program} {w : World} {K : PySem.W.Frag} {mg mb : Str → Option Value} {k : Nat} {fa a : Addr} {cs : List (Addr × Addr)} {fd : FuncData} {x : Str} {sp : Sp} {s₁ : Shared} {vs : List Value} {ns : List Int}
    (KX : K.In s₁.heap) (hns : s₁.heap.Ns mainGlobals mg) (hb : s₁.heap.Ns builtinsNs mb) (hbb : ∀ x : Str, x ≠ "__name__" → mb x = bootBuiltins x) (hlim : s₁.heap.NoLimit) (hg : s₁.gens = #[])
    (hT : ∀ p ∈ cs, s₁.heap.get? p.2 = some { cls := .none, data := .fields #[] }) (nT : ∀ p ∈ cs, K.lookup p.2 = none) (C : ∀ p ∈ cs, PySem.W.CodeHd s₁.heap p.1 p.2)
    (hbm : ∃ (bm : Addr) (ob : Obj), mg "__builtins__" = some (.ref bm) ∧ bm ≠ builtinsNs ∧ s₁.heap.get? bm = some ob ∧ ob.cls = .type "module" ∧ ob.dict = some builtinsNs ∧ ob.data = .plain)
    (ha : s₁.heap.get? a = some { cls := .type "list", data := .seq vs.toArray }) (hi : IntsAre vs ns) (hl : ns.length ≤ sizeLine) (hr : Room k callerA)
    (F : ∀ base : Heap, K.In base → base.Ns mainGlobals mg → (∀ p ∈ cs, TabB base mg p.1 p.2) → FnG P w K mg base CX0 k fa fd [x] sp) (hbind : ∀ (s : Shared) (u : Value), BindsTo s fd ⟨[u], []⟩ [(x, u)])
    (hsp : ∀ H : Hp, (∀ p ∈ cs, H p.2 = some (.tbl #[])) → SqL K H a (ns.map V.int) → sp [.ref a] H (fun v _ => v = .bl true) fun _ _ _ => False) :
    codeAny (model P w) callerA (.call (.ref fa) ⟨[.ref a], []⟩) (fun r s' => r = .ok (.ret (.bool true)) ∧ OldK s₁.heap s'.heap ∧ s'.os = s₁.os ∧ AllBare s'.gens) s₁ := by
  obtain ⟨H0, En⟩ := entry_of (P := P) (w := w) KX ha hi hl
  have tabAt : ∀ b ∈ cs.map (·.2), s₁.heap.get? b = some { cls := .none, data := .fields #[] } := by
    intro b hb
    obtain ⟨p, hp, rfl⟩ := List.mem_map.mp hb
    exact hT p hp
  have memT : ∀ p ∈ cs, p.2 ∈ cs.map (·.2) := fun p hp => List.mem_map.mpr ⟨p, hp, rfl⟩
  have aT : a ∉ cs.map (·.2) := fun z => by
    have e := (tabAt a z).symm.trans ha
    have e2 : Data.fields #[] = Data.seq vs.toArray := congrArg Obj.data (Option.some.inj e)
    cases e2
  -- an object that is neither the script nor a table is not tracked
  have free : ∀ {b : Addr} {o : Obj}, s₁.heap.get? b = some o → o.data ≠ .seq vs.toArray → o.data ≠ .fields #[] → overT cs H0 b = none := by
    intro b o e h1 h2
    have hb : b ∉ cs.map (·.2) := fun z => by
      rw [tabAt b z] at e
      cases e
      exact h2 rfl
    rw [overT_out hb]
    cases q : H0 b with
    | none => rfl
    | some u =>
      rw [En.just b u q, ha] at e
      cases e
      exact (h1 rfl).elim
  have nsB : ∀ {b : Addr} {m : Str → Option Value}, s₁.heap.Ns b m → (hidT s₁.heap (overT cs H0)).Ns b m := by
    rintro b m ⟨o, es, ep, e, d, r⟩
    refine ⟨o, es, ep, hidT_get e (free e ?_ ?_), d, r⟩ <;> rw [d] <;> intro z <;> cases z
  have kB : K.In (hidT s₁.heap (overT cs H0)) := by
    intro b o e
    have hb : b ∉ cs.map (·.2) := fun z => by
      obtain ⟨p, hp, rfl⟩ := List.mem_map.mp z
      rw [nT p hp] at e
      cases e
    refine hidT_get (KX b o e) ?_
    rw [overT_out hb]
    cases q : H0 b with
    | none => rfl
    | some u =>
      have e1 := En.just b u q
      subst e1
      rw [En.kout u q] at e; cases e
  have hM : L2.Mod K mg (hidT s₁.heap (overT cs H0)) := by
    obtain ⟨mc, h1, h2⟩ := hlim
    exact ⟨kB, nsB hns, ⟨mb, nsB hb, hbb⟩, ⟨mc, nsB h1, h2⟩⟩
  have TB : ∀ p ∈ cs, TabB (hidT s₁.heap (overT cs H0)) mg p.1 p.2 := by
    intro p hp
    refine ⟨?_, ?_, ?_⟩
    · obtain ⟨o, us, file, tf, flags, tg, inF, text, tt, e1, r1, r2, r3, rest⟩ := C p hp
      refine ⟨o, us, file, tf, flags, tg, inF, text, tt, hidT_get e1 (free e1 ?_ ?_), r1, r2, r3, rest⟩
      · rw [r2]; intro z; cases z
      · rw [r2]; intro z; cases z; simp at r3
    · obtain ⟨bm, ob, b1, b2, b3, b4, b5, b6⟩ := hbm
      refine ⟨bm, ob, b1, b2, ?_, ?_, hidT_get b3 (free b3 ?_ ?_), b4, b5, b6⟩
      · rintro rfl
        obtain ⟨o, es, ep, e, hd, _⟩ := hns
        rw [b3] at e
        cases e
        rw [b6] at hd
        cases hd
      · rintro rfl
        rw [hT p hp] at b3
        cases b3
        cases b6
      · rw [b6]; intro z; cases z
      · rw [b6]; intro z; cases z
    · intro z
      obtain ⟨o, es, ep, e, hd, _⟩ := hns
      rw [z, hT p hp] at e
      cases e
      cases hd
  have ok : HOk P w (overT cs H0) s₁.heap := by
    intro b u e
    by_cases hb : b ∈ cs.map (·.2)
    · rw [overT_in hb] at e
      cases e
      exact tabAt b hb
    · rw [overT_out hb] at e
      rcases En.only b with y | ⟨o, xs, y⟩
      · rw [y] at e; cases e
      · rw [y] at e
        cases e
        exact En.ok b _ y
  have e0 : Env0 P w K mg (hidT s₁.heap (overT cs H0)) callerA [] s₁ (overT cs H0) :=
    ⟨rfl, hM, fun b o e => of_hidT e, Nat.le_of_eq (hidT_size _ _), trivial, fun b hb => (nomatch (show b ∈ ([] : List Addr) from hb)), ok, .of_eq hg⟩
  have seq : SqL K (overT cs H0) a (ns.map V.int) := by
    have e := overT_out (H := H0) aT
    have q := En.seq
    unfold SqL Rd at q ⊢
    rw [e]
    exact q
  have run := (F _ kB (nsB hns) TB).run callerA [] s₁ (overT cs H0) ⟨[.ref a], []⟩ [.ref a] [.ref a] _ _ rfl hr e0 (hbind s₁ (.ref a)) (.cons rfl .nil) (hsp _ (fun p hp => overT_in (memT p hp)) seq)
  refine codeAny_mono run ?_
  intro r s' h
  match r, h with
  | .error e, h => exact h.elim
  | .ok (.ret u), ⟨v, H', os, bare, un, hok', r', q⟩ =>
    obtain rfl : v = .bl true := q
    obtain rfl : u = Value.bool true := r'
    have same : ∀ b o, b ∉ cs.map (·.2) → s₁.heap.get? b = some o → s'.heap.get? b = some o := by
      intro b o nb e
      have e1 := overT_out (H := H0) nb
      cases z : H0 b with
      | none => exact un.keep b o e (e1.trans z) (by intro y; exact nomatch (show b ∈ ([] : List Addr) from y)) (by simp)
      | some u =>
        rcases En.only b with y | ⟨ob, xs, y⟩
        · rw [z] at y; cases y
        · have p1 := (En.ok b _ y).1
          have p2 := (hok' b _ (un.frzs b ob _ (e1.trans y))).1
          rw [p1] at e
          cases e
          exact p2
    have grown : ∀ p ∈ cs, ∃ more : Array Value, s'.heap.get? p.2 = some { cls := .none, data := .fields more } := by
      intro p hp
      obtain ⟨more, z⟩ := un.tbls p.2 #[] (overT_in (memT p hp))
      exact ⟨_, hok' p.2 _ z⟩
    refine ⟨rfl, ⟨fun b o e => ?_, fun b o e => ?_⟩, os, bare⟩
    · by_cases hb : b ∈ cs.map (·.2)
      · obtain ⟨p, hp, rfl⟩ := List.mem_map.mp hb
        obtain ⟨more, hm⟩ := grown p hp
        rw [hT p hp] at e
        cases e
        exact .inr (.inl ⟨((C p hp).tab (hT p hp)).isCodeTable, rfl, #[], more, rfl, by rw [Array.empty_append]; exact hm⟩)
      · exact .inl (same b o hb e)
    · by_cases hb : b ∈ cs.map (·.2)
      · obtain ⟨p, hp, rfl⟩ := List.mem_map.mp hb
        obtain ⟨more, hm⟩ := grown p hp
        exact ⟨_, hm⟩
      · exact ⟨o, same b o hb e⟩
theorem walk_ofTG {l : PySem.W.OpenLaw} {n k : Nat} {q : Program} {loose : List Str} {XP : (Str → Option Value) → Heap → Prop} {YP : World → Heap → Prop} {d : DefRec} {K : Params → PySem.W.Frag} {x : Str}
    (hn : l.most = some n) (hn2 : n ≤ sizeLine) (hdf : d.params.defaults = []) (hr : Room k callerA) (hY : ∀ (w : World) (h : Heap), YP w h → (K w.params).In h)
    (F : ∀ (w : World) (mg : Str → Option Value) (fa : Addr) (h : Heap), YP w h → (K w.params).In h → h.Ns mainGlobals mg → mg d.name = some (.ref fa) →
      ∃ (fd : FuncData) (cs : List (Addr × Addr)) (sp : Sp), (∀ p ∈ cs, h.get? p.2 = some { cls := .none, data := .fields #[] }) ∧ (∀ p ∈ cs, (K w.params).lookup p.2 = none) ∧ (∀ p ∈ cs, PySem.W.CodeHd h p.1 p.2) ∧ (∀ (s : Shared) (u : Value), BindsTo s fd ⟨[u], []⟩ [(x, u)]) ∧
        (∀ (H : Hp) (a : Addr) (ns : List Int), ns.length ≤ n → (∀ p ∈ cs, H p.2 = some (.tbl #[])) → SqL (K w.params) H a (ns.map V.int) → sp [.ref a] H (fun v _ => v = .bl true) fun _ _ _ => False) ∧
        ∀ base : Heap, (K w.params).In base → base.Ns mainGlobals mg → (∀ p ∈ cs, TabB base mg p.1 p.2) → FnG l.prog w (K w.params) mg base CX0 k fa fd [x] sp) :
    PySem.W.WalkO q loose XP YP l.row.toRowW d [] (fun f vs => PySem.call f vs) := by
  refine Att.attach_callB hn hdf ?_
  intro w s₀ s₁ mg mb fa o pm cd doc a vs ns G Y ho hd hcd hmg hobj hints hlen hbits hg
  obtain ⟨fd, cs, sp, hT, nT, C, hb, hsp, hF⟩ := F w mg fa _ Y (hY w _ Y) G.T.g hmg
  exact law_callTG (hY w _ Y) G.T.g G.T.b G.T.builtins G.T.nolimit hg hT nT C G.T.bmain hobj hints (Nat.le_trans hlen hn2) hr hF hb fun H hT hS => hsp H a ns hlen hT hS
end Lk
namespace Lk
open PySem PySem.Spec PyProof.Rows L2
/-- behind the reckoning a token is out -/
def PEs (X : Cx) (e : Expr) (t : TE) : Prop :=
  ∀ (pins : List (Addr × Obj)) (s : Shared) (σ : L2.St) (H : Hp) (Q : VK), Inv X pins σ H s → t σ H Q → wpAny (model X.prog X.w) X.A (eval e X.env) (fun v s' => 1 ≤ s'.toks ∧ EP X pins σ Q v s') X.xe s
section
variable {X : Cx} {st : Stmt} {rest : List Stmt} {t u : TS} {K : PySem.W.Frag}
variable {e : Expr} {es : List Expr} {ta : TA} {te : TE} {name : Str} {apos cpos : Pos} {T id : String} {r : V → List V → Hp → VK → Prop} {x : Str} {j : Nat} {px : Pos}
theorem pes_bm (pa : PlainAttrs T) (slot : Slot T name id) (hty : typeOf (.builtin id) = pure (.type "method_descriptor")) (hm : MtR X id r) (ha : PA X (e :: es) ta)
    (hbase : attributeBase (.Constant (.str x) j px) name X.env (eval (.Constant (.str x) j px) X.env) = eval (.Constant (.str x) j px) X.env := by rfl)
    (hfew : Few X e es cpos := by rfl)
    (hline : (apos.endLine == cpos.line) = true := by rfl) (hs : starEach (e :: es) X.env = (false, eval e X.env) :: starEach es X.env := by rfl) (hplain : (backTo cpos (starEach es X.env)).any (·.1) = false := by rfl) (hK : X.K = K := by rfl) :
    PEs X (.Call (.Attribute (.Constant (.str x) j px) name apos) (e :: es) [] cpos) (tBM K T r (tC (.str x)) ta) := by
  subst hK
  intro pins s σ H Q I h
  refine wpAny_Call_method_late hbase hfew hline rfl (Calls.Constant_str ?_)
  have I1 := I.tok (s.toks + 1)
  obtain ⟨h1, h2⟩ := tyV_is I1 (show RelV (.str x) _ from ⟨s.toks, rfl⟩) h.1
  refine ⟨T, id, pa, slot, hty, h1, h2, ?_⟩
  have hA := ha.run cpos pins _ σ H _ I1 h.2
  refine wpAny_mono (wpAny_toks_of (n := 1) (by show 1 ≤ s.toks + 1; omega) (Q := EP X pins σ Q) (E := X.xe) ?_) (fun _ _ z => z) (fun _ _ z => z.2)
  rw [hs] at hA ⊢
  refine Calls.callWith_builtin (by show (false || (backTo cpos (starEach es X.env)).any (·.1)) = false; rw [hplain] <;> rfl) (Calls.evalArgs_plain ?_)
  exact thn hA fun us s2 ⟨vs, H2, I2, r2, q2⟩ => hm pins s2 σ H2 (.str x) vs (.str x s.toks) us Q I2 ⟨_, rfl⟩ r2 q2
/-- name = value; behind it a token is out -/
theorem pss_setT {i : Nat} {x : Str} {pos pos' : Pos} (hN : X.N.Nodup) (hi : X.N[i]? = some x) (hx : Loc X.env.scope x) (he : PEs X e te) (h2 : PSsT X rest u)
    (hs : swapsWith e (some (.Name x pos')) pos.line X.env = pure false := by rfl) (hf : X.fn x = true ∨ X.env.scope.names.lookup x = some .local := by first | exact .inl rfl | exact .inr rfl | assumption) :
    PSs X (.Assign [.Name x pos'] e pos :: rest) (tSeq (tAsg te (gName i)) u) := by
  refine ⟨fun pins s σ H D I h => ?_⟩
  refine wpAny_execs_cons (wpAny_Assign_Name (thn (he pins s σ H _ I h) fun v s1 q0 => ?_) hs)
  obtain ⟨hk, y, H1, I1, r1, q1⟩ := q0
  exact wpAny_mono (wpAny_toks_of hk (store_ok (Q := fun _ s2 => Inv X pins (σ.set i (some y)) H1 s2) I1 hN hi hx r1 (fun s2 I2 => I2) hf)) (fun _ s2 q => h2 pins s2 _ H1 D q.1 q.2 q1) (fun _ _ z => z.2)
theorem pst_set {i : Nat} {x : Str} {pos pos' : Pos} (hN : X.N.Nodup) (hi : X.N[i]? = some x) (hx : Loc X.env.scope x) (he : PET X e te)
    (hs : swapsWith e (some (.Name x pos')) pos.line X.env = pure false := by rfl) (hf : X.fn x = true ∨ X.env.scope.names.lookup x = some .local := by first | exact .inl rfl | exact .inr rfl | assumption) :
    PST X (.Assign [.Name x pos'] e pos) (tAsg te (gName i)) := by
  intro pins s σ H D h0 I h
  refine wpAny_Assign_Name (thn (he pins s σ H _ h0 I h) fun v s1 ⟨y, H1, I1, r1, q1⟩ => ?_) hs
  exact store_ok I1 hN hi hx r1 (fun s2 I2 => ⟨_, H1, I2, q1⟩) hf
/-- for, with a token out ahead of it: so it is within the body -/
theorem pst_forB {tg iter : Expr} {body : List Stmt} {wi : TI} {g : TG} {tb : TS} {pos : Pos} (hp : PassesOwn (model X.prog X.w) X.A X.env X.xe) (hc : X.calm = true) (hi : PI X tg iter wi) (hg : PG X tg g) (hb : PSsT X body tb)
    (hs : ∀ x, foldedSetIterable iter X.env x = pure x := by intro _; rfl) : PST X (.For tg iter body [] pos) (tFor wi g tb) := by
  intro pins s σ H D h0 I h
  refine wpAny_For (wpAny_mono (wpAny_toks_of h0 (hi.run pins s σ H _ I h)) (fun v s1 h1 => wpAny_mono (wpAny_toks_of h1.1 h1.2) (fun itv s2 h2 => ?_) fun _ _ z => z.2) fun _ _ z => z.2) hs
  obtain ⟨k2, it, fp, tn, J, H2, e, I2, T, st2, f2, W, ⟨m0, w0⟩, turn⟩ := h2
  subst e
  have stat : ∀ {H' : Hp}, (∀ b ∈ fp, H' b = none) → ∀ b ∈ fp, FpOk X pins H' b := fun hn b hb => ⟨hn b hb, (f2 b hb).2⟩
  refine codeAny_forLoop_any (fun n s' => 1 ≤ s'.toks ∧ ∃ i σ' H', Inv X pins σ' H' s' ∧ tn i s'.heap ∧ (∀ b ∈ fp, H' b = none) ∧ W i n σ' H') ?_ m0 ⟨k2, 0, σ, H2, I2, st2, fun b hb => (f2 b hb).1, w0⟩
  rintro n s3 ⟨k3, i, σ3, H3, I3, st3, fr3, w3⟩
  rcases turn i n σ3 H3 w3 with ⟨stop, qn⟩ | ⟨go, N, hN, step⟩
  · refine wpAny_passesOwn hp (thn (T.done X rfl rfl rfl hc i pins s3 σ3 H3 X.xe I3 (stat fr3) st3 stop) fun r s4 ⟨hr, I4⟩ => ?_)
    subst hr
    exact wpAny_execs_nil ⟨σ3, H3, I4, qn⟩
  · refine wpAny_mono (wpAny_toks_of k3 (wpAny_passesOwn hp (T.item X rfl rfl rfl hc i pins s3 σ3 H3 X.xe I3 (stat fr3) st3 go))) (fun r s4 ⟨k4, u, hr, h4⟩ => ?_) fun _ _ z => z.2
    subst hr
    refine wpAny_mono (wpAny_toks_of k4 (wpAny_passesOwn hp h4)) (fun _ s5 ⟨k5, x, H5, I5, r5, y5, st5, fr5⟩ => ?_) fun _ _ z => z.2
    have I5' := I5.pinned (stat fr5) (T.obj _ _ st5)
    refine wpAny_mono (wpAny_toks_of k5 (wpAny_passesOwn hp (hg.run _ s5 σ3 H5 x u _ I5' r5 (step x H5 y5)))) (fun _ s6 ⟨k6, σ6, H6, I6, q6⟩ => ?_) fun _ _ z => z.2
    refine wpAny_mono (wpAny_toks_of k6 (wpAny_passesOwn hp (hb _ s6 σ6 H6 _ k6 I6 q6))) (fun f s7 ⟨k7, q7⟩ => ?_) fun _ _ z => z.2
    have again : ∀ {σ7 : L2.St} {H7 : Hp}, Inv X (pins ++ pinsAt fp s5.heap) σ7 H7 s7 → N σ7 H7 → ∃ m, m < n ∧ 1 ≤ s7.toks ∧ ∃ i σ' H', Inv X pins σ' H' s7 ∧ tn i s7.heap ∧ (∀ b ∈ fp, H' b = none) ∧ W i m σ' H' := fun {σ7 H7} I7 n7 => by
      obtain ⟨m', hm, w7⟩ := hN σ7 H7 n7
      refine ⟨m', hm, k7, i + 1, σ7, H7, I7.unpinned, T.keep _ _ _ st5 fun b hb o e => (I7.pin (b, o) (List.mem_append_right _ (List.mem_append_right _ (mem_pinsAt hb e)))).1, fun b hb => ?_, w7⟩
      obtain ⟨o, e, d⟩ := T.obj _ _ st5 b hb
      exact (I7.pin (b, o) (List.mem_append_right _ (List.mem_append_right _ (mem_pinsAt hb e)))).2.1
    cases f with
    | next => obtain ⟨σ7, H7, I7, n7⟩ := q7; exact again I7 n7
    | cont => obtain ⟨σ7, H7, I7, n7⟩ := q7; exact again I7 n7
    | brk => obtain ⟨σ7, H7, I7, q7⟩ := q7; exact ⟨σ7, H7, I7.unpinned, q7⟩
    | ret v => obtain ⟨x7, σ7, H7, I7, r7, q7⟩ := q7; exact ⟨x7, σ7, H7, I7.unpinned, r7, q7⟩
end
end Lk
namespace My
open PySem PySem.Spec PyProof.Rows L2 Lk
def top (i : Nat) : Stmt := PySem.Challenge.pw_cleandress_k54_patterns_of_paths.main.body.getD i (.Pass ⟨0, 0, 0, 0⟩)
abbrev s_is_text : Stmt := (top 5)
abbrev nm_is_text : List Str := ["value", "sign"]
abbrev ps_is_text : List Str := ["value"]
theorem sc_is_text : FnScope nm_is_text ps_is_text (defScope s_is_text) := ⟨rfl, rfl, rfl, by decide +kernel, rfl, by decide +kernel, by decide +kernel⟩
abbrev s_is_path : Stmt := (top 10)
abbrev nm_is_path : List Str := ["value"]
abbrev ps_is_path : List Str := ["value"]
theorem sc_is_path : FnScope nm_is_path ps_is_path (defScope s_is_path) := ⟨rfl, rfl, rfl, by decide +kernel, rfl, by decide +kernel, by decide +kernel⟩
abbrev s_is_path_pattern : Stmt := (top 11)
abbrev nm_is_path_pattern : List Str := ["value", "one"]
abbrev ps_is_path_pattern : List Str := ["value"]
theorem sc_is_path_pattern : FnScope nm_is_path_pattern ps_is_path_pattern (defScope s_is_path_pattern) := ⟨rfl, rfl, rfl, by decide +kernel, rfl, by decide +kernel, by decide +kernel⟩
abbrev s_require_path : Stmt := (top 12)
abbrev nm_require_path : List Str := ["value"]
abbrev ps_require_path : List Str := ["value"]
theorem sc_require_path : FnScope nm_require_path ps_require_path (defScope s_require_path) := ⟨rfl, rfl, rfl, by decide +kernel, rfl, by decide +kernel, by decide +kernel⟩
abbrev s_begun_places : Stmt := (top 13)
abbrev nm_begun_places : List Str := ["pattern", "found"]
abbrev ps_begun_places : List Str := ["pattern"]
theorem sc_begun_places : FnScope nm_begun_places ps_begun_places (defScope s_begun_places) := ⟨rfl, rfl, rfl, by decide +kernel, rfl, by decide +kernel, by decide +kernel⟩
abbrev s_later_places : Stmt := (top 14)
abbrev nm_later_places : List Str := ["pattern", "places", "sign", "found", "at", "one", "is_next"]
abbrev ps_later_places : List Str := ["pattern", "places", "sign"]
theorem sc_later_places : FnScope nm_later_places ps_later_places (defScope s_later_places) := ⟨rfl, rfl, rfl, by decide +kernel, rfl, by decide +kernel, by decide +kernel⟩
abbrev s_does_fit : Stmt := (top 15)
abbrev nm_does_fit : List Str := ["pattern", "path", "places", "sign"]
abbrev ps_does_fit : List Str := ["pattern", "path"]
theorem sc_does_fit : FnScope nm_does_fit ps_does_fit (defScope s_does_fit) := ⟨rfl, rfl, rfl, by decide +kernel, rfl, by decide +kernel, by decide +kernel⟩
abbrev s_fits : Stmt := (top 16)
abbrev nm_fits : List Str := ["pattern", "path"]
abbrev ps_fits : List Str := ["pattern", "path"]
theorem sc_fits : FnScope nm_fits ps_fits (defScope s_fits) := ⟨rfl, rfl, rfl, by decide +kernel, rfl, by decide +kernel, by decide +kernel⟩
abbrev s__law_dice : Stmt := (top 18)
abbrev nm__law_dice : List Str := ["script", "at", "cell", "great", "mixed"]
abbrev ps__law_dice : List Str := ["script", "at"]
theorem sc__law_dice : FnScope nm__law_dice ps__law_dice (defScope s__law_dice) := ⟨rfl, rfl, rfl, by decide +kernel, rfl, by decide +kernel, by decide +kernel⟩
abbrev s__law_roll : Stmt := (top 19)
abbrev nm__law_roll : List Str := ["dice", "total", "found", "one", "two"]
abbrev ps__law_roll : List Str := ["dice", "total"]
theorem sc__law_roll : FnScope nm__law_roll ps__law_roll (defScope s__law_roll) := ⟨rfl, rfl, rfl, by decide +kernel, rfl, by decide +kernel, by decide +kernel⟩
abbrev s__law_one_of : Stmt := (top 20)
abbrev nm__law_one_of : List Str := ["dice", "items"]
abbrev ps__law_one_of : List Str := ["dice", "items"]
theorem sc__law_one_of : FnScope nm__law_one_of ps__law_one_of (defScope s__law_one_of) := ⟨rfl, rfl, rfl, by decide +kernel, rfl, by decide +kernel, by decide +kernel⟩
abbrev s__law_mixed : Stmt := (top 21)
abbrev nm__law_mixed : List Str := ["dice", "items", "left", "turn"]
abbrev ps__law_mixed : List Str := ["dice", "items"]
theorem sc__law_mixed : FnScope nm__law_mixed ps__law_mixed (defScope s__law_mixed) := ⟨rfl, rfl, rfl, by decide +kernel, rfl, by decide +kernel, by decide +kernel⟩
abbrev s__law_all_signs : Stmt := (top 22)
abbrev nm__law_all_signs : List Str := []
abbrev ps__law_all_signs : List Str := []
theorem sc__law_all_signs : FnScope nm__law_all_signs ps__law_all_signs (defScope s__law_all_signs) := ⟨rfl, rfl, rfl, by decide +kernel, rfl, by decide +kernel, by decide +kernel⟩
abbrev s__law_signs : Stmt := (top 23)
abbrev nm__law_signs : List Str := ["dice", "upto", "pool", "size"]
abbrev ps__law_signs : List Str := ["dice", "upto"]
theorem sc__law_signs : FnScope nm__law_signs ps__law_signs (defScope s__law_signs) := ⟨rfl, rfl, rfl, by decide +kernel, rfl, by decide +kernel, by decide +kernel⟩
abbrev s__law_texts : Stmt := (top 24)
abbrev nm__law_texts : List Str := ["signs", "upto", "found", "start", "turn", "end", "at", "sign"]
abbrev ps__law_texts : List Str := ["signs", "upto"]
theorem sc__law_texts : FnScope nm__law_texts ps__law_texts (defScope s__law_texts) := ⟨rfl, rfl, rfl, by decide +kernel, rfl, by decide +kernel, by decide +kernel⟩
abbrev s__law_fits : Stmt := (top 25)
abbrev nm__law_fits : List Str := ["pattern", "path", "held", "one", "at"]
abbrev ps__law_fits : List Str := ["pattern", "path"]
theorem sc__law_fits : FnScope nm__law_fits ps__law_fits (defScope s__law_fits) := ⟨rfl, rfl, rfl, by decide +kernel, rfl, by decide +kernel, by decide +kernel⟩
abbrev s__law_pattern : Stmt := (top 26)
abbrev nm__law_pattern : List Str := ["dice", "signs", "size", "some", "turn"]
abbrev ps__law_pattern : List Str := ["dice", "signs", "size"]
theorem sc__law_pattern : FnScope nm__law_pattern ps__law_pattern (defScope s__law_pattern) := ⟨rfl, rfl, rfl, by decide +kernel, rfl, by decide +kernel, by decide +kernel⟩
abbrev s__law_by_splits : Stmt := (top 27)
abbrev nm__law_by_splits : List Str := ["pattern", "path"]
abbrev ps__law_by_splits : List Str := ["pattern", "path"]
theorem sc__law_by_splits : FnScope nm__law_by_splits ps__law_by_splits (defScope s__law_by_splits) := ⟨rfl, rfl, rfl, by decide +kernel, rfl, by decide +kernel, by decide +kernel⟩
abbrev s__law_word_of : Stmt := (top 28)
abbrev nm__law_word_of : List Str := ["call"]
abbrev ps__law_word_of : List Str := ["call"]
theorem sc__law_word_of : FnScope nm__law_word_of ps__law_word_of (defScope s__law_word_of) := ⟨rfl, rfl, rfl, by decide +kernel, rfl, by decide +kernel, by decide +kernel⟩
abbrev s__law_short_right : Stmt := (top 29)
abbrev nm__law_short_right : List Str := ["dice", "signs", "pattern", "path", "due"]
abbrev ps__law_short_right : List Str := ["dice", "signs"]
theorem sc__law_short_right : FnScope nm__law_short_right ps__law_short_right (defScope s__law_short_right) := ⟨rfl, rfl, rfl, by decide +kernel, rfl, by decide +kernel, by decide +kernel⟩
abbrev s__law_long_right : Stmt := (top 30)
abbrev nm__law_long_right : List Str := ["dice", "signs", "path", "pattern", "at", "cut", "near", "one", "wider", "text", "turn"]
abbrev ps__law_long_right : List Str := ["dice", "signs"]
theorem sc__law_long_right : FnScope nm__law_long_right ps__law_long_right (defScope s__law_long_right) := ⟨rfl, rfl, rfl, by decide +kernel, rfl, by decide +kernel, by decide +kernel⟩
abbrev s__law_odd_right : Stmt := (top 31)
abbrev nm__law_odd_right : List Str := ["dice", "signs", "told", "odd", "path", "pattern"]
abbrev ps__law_odd_right : List Str := ["dice", "signs"]
theorem sc__law_odd_right : FnScope nm__law_odd_right ps__law_odd_right (defScope s__law_odd_right) := ⟨rfl, rfl, rfl, by decide +kernel, rfl, by decide +kernel, by decide +kernel⟩
abbrev s_law : Stmt := (top 32)
abbrev nm_law : List Str := ["script", "at", "dice", "signs", "told"]
abbrev ps_law : List Str := ["script"]
theorem sc_law : FnScope nm_law ps_law (defScope s_law) := ⟨rfl, rfl, rfl, by decide +kernel, rfl, by decide +kernel, by decide +kernel⟩
structure Tx (K : PySem.W.Frag) (mg : Str → Option Value) where
  a_is_text : Addr
  d_is_text : FuncData
  F_is_text : Fun K "is_text" "is_text" s_is_text a_is_text d_is_text
  b_is_text : Binds K d_is_text ps_is_text []
  m_is_text : mg "is_text" = some (.ref a_is_text)
  a_is_path : Addr
  d_is_path : FuncData
  F_is_path : Fun K "is_path" "is_path" s_is_path a_is_path d_is_path
  b_is_path : Binds K d_is_path ps_is_path []
  m_is_path : mg "is_path" = some (.ref a_is_path)
  a_is_path_pattern : Addr
  d_is_path_pattern : FuncData
  F_is_path_pattern : Fun K "is_path_pattern" "is_path_pattern" s_is_path_pattern a_is_path_pattern d_is_path_pattern
  b_is_path_pattern : Binds K d_is_path_pattern ps_is_path_pattern []
  m_is_path_pattern : mg "is_path_pattern" = some (.ref a_is_path_pattern)
  a_require_path : Addr
  d_require_path : FuncData
  F_require_path : Fun K "require_path" "require_path" s_require_path a_require_path d_require_path
  b_require_path : Binds K d_require_path ps_require_path []
  m_require_path : mg "require_path" = some (.ref a_require_path)
  a_begun_places : Addr
  d_begun_places : FuncData
  F_begun_places : Fun K "begun_places" "begun_places" s_begun_places a_begun_places d_begun_places
  b_begun_places : Binds K d_begun_places ps_begun_places []
  m_begun_places : mg "begun_places" = some (.ref a_begun_places)
  a_later_places : Addr
  d_later_places : FuncData
  F_later_places : Fun K "later_places" "later_places" s_later_places a_later_places d_later_places
  b_later_places : Binds K d_later_places ps_later_places []
  m_later_places : mg "later_places" = some (.ref a_later_places)
  a_does_fit : Addr
  d_does_fit : FuncData
  F_does_fit : Fun K "does_fit" "does_fit" s_does_fit a_does_fit d_does_fit
  b_does_fit : Binds K d_does_fit ps_does_fit []
  m_does_fit : mg "does_fit" = some (.ref a_does_fit)
  a_fits : Addr
  d_fits : FuncData
  F_fits : Fun K "fits" "fits" s_fits a_fits d_fits
  b_fits : Binds K d_fits ps_fits []
  m_fits : mg "fits" = some (.ref a_fits)
  a__law_dice : Addr
  d__law_dice : FuncData
  F__law_dice : Fun K "_law_dice" "_law_dice" s__law_dice a__law_dice d__law_dice
  b__law_dice : Binds K d__law_dice ps__law_dice []
  m__law_dice : mg "_law_dice" = some (.ref a__law_dice)
  a__law_roll : Addr
  d__law_roll : FuncData
  F__law_roll : Fun K "_law_roll" "_law_roll" s__law_roll a__law_roll d__law_roll
  b__law_roll : Binds K d__law_roll ps__law_roll []
  m__law_roll : mg "_law_roll" = some (.ref a__law_roll)
  a__law_one_of : Addr
  d__law_one_of : FuncData
  F__law_one_of : Fun K "_law_one_of" "_law_one_of" s__law_one_of a__law_one_of d__law_one_of
  b__law_one_of : Binds K d__law_one_of ps__law_one_of []
  m__law_one_of : mg "_law_one_of" = some (.ref a__law_one_of)
  a__law_mixed : Addr
  d__law_mixed : FuncData
  F__law_mixed : Fun K "_law_mixed" "_law_mixed" s__law_mixed a__law_mixed d__law_mixed
  b__law_mixed : Binds K d__law_mixed ps__law_mixed []
  m__law_mixed : mg "_law_mixed" = some (.ref a__law_mixed)
  a__law_all_signs : Addr
  d__law_all_signs : FuncData
  F__law_all_signs : Fun K "_law_all_signs" "_law_all_signs" s__law_all_signs a__law_all_signs d__law_all_signs
  b__law_all_signs : Binds K d__law_all_signs ps__law_all_signs []
  m__law_all_signs : mg "_law_all_signs" = some (.ref a__law_all_signs)
  a__law_signs : Addr
  d__law_signs : FuncData
  F__law_signs : Fun K "_law_signs" "_law_signs" s__law_signs a__law_signs d__law_signs
  b__law_signs : Binds K d__law_signs ps__law_signs []
  m__law_signs : mg "_law_signs" = some (.ref a__law_signs)
  a__law_texts : Addr
  d__law_texts : FuncData
  F__law_texts : Fun K "_law_texts" "_law_texts" s__law_texts a__law_texts d__law_texts
  b__law_texts : Binds K d__law_texts ps__law_texts []
  m__law_texts : mg "_law_texts" = some (.ref a__law_texts)
  a__law_fits : Addr
  d__law_fits : FuncData
  F__law_fits : Fun K "_law_fits" "_law_fits" s__law_fits a__law_fits d__law_fits
  b__law_fits : Binds K d__law_fits ps__law_fits []
  m__law_fits : mg "_law_fits" = some (.ref a__law_fits)
  a__law_pattern : Addr
  d__law_pattern : FuncData
  F__law_pattern : Fun K "_law_pattern" "_law_pattern" s__law_pattern a__law_pattern d__law_pattern
  b__law_pattern : Binds K d__law_pattern ps__law_pattern []
  m__law_pattern : mg "_law_pattern" = some (.ref a__law_pattern)
  a__law_by_splits : Addr
  d__law_by_splits : FuncData
  F__law_by_splits : Fun K "_law_by_splits" "_law_by_splits" s__law_by_splits a__law_by_splits d__law_by_splits
  b__law_by_splits : Binds K d__law_by_splits ps__law_by_splits []
  m__law_by_splits : mg "_law_by_splits" = some (.ref a__law_by_splits)
  a__law_word_of : Addr
  d__law_word_of : FuncData
  F__law_word_of : Fun K "_law_word_of" "_law_word_of" s__law_word_of a__law_word_of d__law_word_of
  b__law_word_of : Binds K d__law_word_of ps__law_word_of []
  m__law_word_of : mg "_law_word_of" = some (.ref a__law_word_of)
  a__law_short_right : Addr
  d__law_short_right : FuncData
  F__law_short_right : Fun K "_law_short_right" "_law_short_right" s__law_short_right a__law_short_right d__law_short_right
  b__law_short_right : Binds K d__law_short_right ps__law_short_right []
  m__law_short_right : mg "_law_short_right" = some (.ref a__law_short_right)
  a__law_long_right : Addr
  d__law_long_right : FuncData
  F__law_long_right : Fun K "_law_long_right" "_law_long_right" s__law_long_right a__law_long_right d__law_long_right
  b__law_long_right : Binds K d__law_long_right ps__law_long_right []
  m__law_long_right : mg "_law_long_right" = some (.ref a__law_long_right)
  a__law_odd_right : Addr
  d__law_odd_right : FuncData
  F__law_odd_right : Fun K "_law_odd_right" "_law_odd_right" s__law_odd_right a__law_odd_right d__law_odd_right
  b__law_odd_right : Binds K d__law_odd_right ps__law_odd_right []
  m__law_odd_right : mg "_law_odd_right" = some (.ref a__law_odd_right)
  a_law : Addr
  d_law : FuncData
  F_law : Fun K "law" "law" s_law a_law d_law
  b_law : Binds K d_law ps_law []
  m_law : mg "law" = some (.ref a_law)
  c_InvalidText : Addr
  m_InvalidText : mg "InvalidText" = some (.ref c_InvalidText)
  x_InvalidText : PySem.W.excIn K c_InvalidText [.type "ValueError", .type "Exception", .type "BaseException", .type "object"] "ValueError.__new__" = true
  k_InvalidText : PySem.W.keepIn K (.ref c_InvalidText) = true
  b_InvalidText : PySem.W.subIn K (.ref c_InvalidText) (.type "BaseException") = some true
  t_InvalidText : PySem.W.typeIn K (.ref c_InvalidText) = some (.type "type")
  e_InvalidText : PySem.W.exmOne K (.ref c_InvalidText) (.ref c_InvalidText) = some true
  i_InvalidText : PySem.W.isClsIn K c_InvalidText = true
  c_DressError : Addr
  m_DressError : mg "DressError" = some (.ref c_DressError)
  x_DressError : PySem.W.excIn K c_DressError [.type "ValueError", .type "Exception", .type "BaseException", .type "object"] "ValueError.__new__" = true
  k_DressError : PySem.W.keepIn K (.ref c_DressError) = true
  b_DressError : PySem.W.subIn K (.ref c_DressError) (.type "BaseException") = some true
  t_DressError : PySem.W.typeIn K (.ref c_DressError) = some (.type "type")
  e_DressError : PySem.W.exmOne K (.ref c_DressError) (.ref c_DressError) = some true
  i_DressError : PySem.W.isClsIn K c_DressError = true
  t_SIGNS : Tok
  m_SIGNS : mg "SIGNS" = some (.str "#$0123:_abcdefg" t_SIGNS)
  t_MAX_PATH : Tok
  m_MAX_PATH : mg "MAX_PATH" = some (.int 12 t_MAX_PATH)
  t_ANY : Tok
  m_ANY : mg "ANY" = some (.str "*" t_ANY)
  t_ONE : Tok
  m_ONE : mg "ONE" = some (.str "?" t_ONE)
  n_len : mg "len" = none
  n_isinstance : mg "isinstance" = none
  n_all : mg "all" = none
  n_str : mg "str" = none
  n_int : mg "int" = none
  n_abs : mg "abs" = none
  n_max : mg "max" = none
  n_min : mg "min" = none
  n_range : mg "range" = none
  n_tuple : mg "tuple" = none
  n_list : mg "list" = none
  n_enumerate : mg "enumerate" = none
  n_sorted : mg "sorted" = none
  n_repr : mg "repr" = none
section
variable {K : PySem.W.Frag} {mg : Str → Option Value}
theorem Tx.k_is_text (T : Tx K mg) : PySem.W.keepIn K (.ref T.a_is_text) = true := T.F_is_text.kp
theorem Tx.k_is_path (T : Tx K mg) : PySem.W.keepIn K (.ref T.a_is_path) = true := T.F_is_path.kp
theorem Tx.k_is_path_pattern (T : Tx K mg) : PySem.W.keepIn K (.ref T.a_is_path_pattern) = true := T.F_is_path_pattern.kp
theorem Tx.k_require_path (T : Tx K mg) : PySem.W.keepIn K (.ref T.a_require_path) = true := T.F_require_path.kp
theorem Tx.k_begun_places (T : Tx K mg) : PySem.W.keepIn K (.ref T.a_begun_places) = true := T.F_begun_places.kp
theorem Tx.k_later_places (T : Tx K mg) : PySem.W.keepIn K (.ref T.a_later_places) = true := T.F_later_places.kp
theorem Tx.k_does_fit (T : Tx K mg) : PySem.W.keepIn K (.ref T.a_does_fit) = true := T.F_does_fit.kp
theorem Tx.k_fits (T : Tx K mg) : PySem.W.keepIn K (.ref T.a_fits) = true := T.F_fits.kp
theorem Tx.k__law_dice (T : Tx K mg) : PySem.W.keepIn K (.ref T.a__law_dice) = true := T.F__law_dice.kp
theorem Tx.k__law_roll (T : Tx K mg) : PySem.W.keepIn K (.ref T.a__law_roll) = true := T.F__law_roll.kp
theorem Tx.k__law_one_of (T : Tx K mg) : PySem.W.keepIn K (.ref T.a__law_one_of) = true := T.F__law_one_of.kp
theorem Tx.k__law_mixed (T : Tx K mg) : PySem.W.keepIn K (.ref T.a__law_mixed) = true := T.F__law_mixed.kp
theorem Tx.k__law_all_signs (T : Tx K mg) : PySem.W.keepIn K (.ref T.a__law_all_signs) = true := T.F__law_all_signs.kp
theorem Tx.k__law_signs (T : Tx K mg) : PySem.W.keepIn K (.ref T.a__law_signs) = true := T.F__law_signs.kp
theorem Tx.k__law_texts (T : Tx K mg) : PySem.W.keepIn K (.ref T.a__law_texts) = true := T.F__law_texts.kp
theorem Tx.k__law_fits (T : Tx K mg) : PySem.W.keepIn K (.ref T.a__law_fits) = true := T.F__law_fits.kp
theorem Tx.k__law_pattern (T : Tx K mg) : PySem.W.keepIn K (.ref T.a__law_pattern) = true := T.F__law_pattern.kp
theorem Tx.k__law_by_splits (T : Tx K mg) : PySem.W.keepIn K (.ref T.a__law_by_splits) = true := T.F__law_by_splits.kp
theorem Tx.k__law_word_of (T : Tx K mg) : PySem.W.keepIn K (.ref T.a__law_word_of) = true := T.F__law_word_of.kp
theorem Tx.k__law_short_right (T : Tx K mg) : PySem.W.keepIn K (.ref T.a__law_short_right) = true := T.F__law_short_right.kp
theorem Tx.k__law_long_right (T : Tx K mg) : PySem.W.keepIn K (.ref T.a__law_long_right) = true := T.F__law_long_right.kp
theorem Tx.k__law_odd_right (T : Tx K mg) : PySem.W.keepIn K (.ref T.a__law_odd_right) = true := T.F__law_odd_right.kp
theorem Tx.k_law (T : Tx K mg) : PySem.W.keepIn K (.ref T.a_law) = true := T.F_law.kp
end
end My
namespace My
open PySem PySem.Spec PyProof.Rows L2 Lk Evl
/-! ### heaps -/
def Dice (H : Hp) (d : Addr) : Prop := ∃ a b c : Int, H d = some (.lst [.int a, .int b, .int c])
structure Roll (d : Addr) (H H' : Hp) : Prop where
  dice : Dice H' d
  keep : ∀ b o, H b = some o → b ≠ d → H' b = some o
theorem Dice.upd {H : Hp} {d : Addr} {a b c : Int} : Dice (upd H d (.lst [.int a, .int b, .int c])) d := ⟨a, b, c, upd_same⟩
theorem Roll.upd {H : Hp} {d : Addr} {a b c : Int} : Roll d H (upd H d (.lst [.int a, .int b, .int c])) := ⟨Dice.upd, fun b o e hb => by rw [upd_ne hb]; exact e⟩
theorem Roll.refl {H : Hp} {d : Addr} (h : Dice H d) : Roll d H H := ⟨h, fun _ _ e _ => e⟩
theorem Roll.trans {d : Addr} {H H1 H2 : Hp} (a : Roll d H H1) (b : Roll d H1 H2) : Roll d H H2 := ⟨b.dice, fun c o e n => b.keep c o (a.keep c o e n) n⟩
theorem Roll.ex {d : Addr} {H H1 H2 : Hp} (a : Roll d H H1) (b : Ex H1 H2) : Roll d H H2 := ⟨by obtain ⟨x, y, z, e⟩ := a.dice; exact ⟨x, y, z, b _ _ e⟩, fun c o e n => b _ _ (a.keep c o e n)⟩
theorem Roll.of_ex {d : Addr} {H H1 : Hp} (h : Dice H d) (b : Ex H H1) : Roll d H H1 := (Roll.refl h).ex b
/-! ### texts and values -/
abbrev tl (z : Str) : List Nat := z.cps.toList
theorem tl_len (z : Str) : (tl z).length = z.length := by simp [tl, Str.length]
def SG : Str := "#$0123:_abcdefg"
def sigs : List Nat := tl SG
theorem sigs_eq : sigs = [35, 36, 48, 49, 50, 51, 58, 95, 97, 98, 99, 100, 101, 102, 103] := by decide +kernel
def isStr : V → Bool
  | .str _ => true
  | _ => false
def isText : V → Bool
  | .str z => (tl z).all fun c => decide (c ∈ sigs)
  | _ => false
def isPath : V → Bool
  | .str z => isText (.str z) && (decide (1 ≤ z.length) && decide (z.length ≤ 12))
  | _ => false
def patC (c : Nat) : Bool := decide (c ∈ sigs) || decide (c = 42 ∨ c = 63)
def isPat : V → Bool
  | .str z => decide (1 ≤ z.length) && decide (z.length ≤ 12) && (tl z).all patC
  | _ => false
theorem sgn_inj {a c : Nat} : sgn a = sgn c ↔ a = c := by
  constructor
  · intro h
    have := congrArg (fun z : Str => z.cps.toList) h
    simpa [sgn] using this
  · intro h; rw [h]
theorem beq_sgn (a c : Nat) : (sgn a == sgn c) = decide (a = c) := by
  by_cases h : a = c
  · subst h; simp
  · rw [decide_eq_false h]
    exact beq_eq_false_iff_ne.mpr fun e => h (sgn_inj.mp e)
theorem star_sgn : ("*" : Str) = sgn 42 := by decide +kernel
theorem quest_sgn : ("?" : Str) = sgn 63 := by decide +kernel
theorem inV_pair (c : Nat) : inV (.str (sgn c)) [V.str "*", V.str "?"] = decide (c = 42 ∨ c = 63) := by
  rw [star_sgn, quest_sgn]
  simp only [inV, List.any_cons, List.any_nil, eqV, beq_sgn, Bool.or_false]
  by_cases h1 : c = 42
  · subst h1; rfl
  · by_cases h2 : c = 63
    · subst h2; rfl
    · simp [h1, h2]; omega
/-- what a value must be for the checks: its type is known, a text is not too long -/
structure Known (K : PySem.W.Frag) (H : Hp) (v : V) : Prop where
  ty : ∃ t, TyX K H v t ∧ PySem.W.kitOne K t (.type "str") = some (isStr v)
  len : ∀ z, v = .str z → z.length ≤ 1000000
theorem kit_str (K : PySem.W.Frag) : PySem.W.kitOne K (.type "str") (.type "str") = some true := by rfl
theorem Known.str {K : PySem.W.Frag} {H : Hp} {z : Str} (h : z.length ≤ 1000000) : Known K H (.str z) := ⟨⟨_, .base (.str z), kit_str K⟩, fun y e => by cases e; exact h⟩
section
variable {P : Program} {w : World} {K : PySem.W.Frag} {mg : Str → Option Value} {base : Heap}
/-! ### is_text -/
def spB (K : PySem.W.Frag) (f : V → Bool) : Sp := fun vs H Q _ => ∃ v, vs = [v] ∧ Known K H v ∧ ∀ H', Ex H H' → Q (.bl (f v)) H'
theorem ok_is_text (T : Tx K mg) : FnOk P w K mg base CX0 1 T.a_is_text T.d_is_text ps_is_text (spB K isText) := by
  refine T.F_is_text.ok sc_is_text (fun vs H Q E h => ?_) (fun cdv A outer s H vs Q E hr h => ?_)
  · obtain ⟨v, rfl, _⟩ := h
    rfl
  · obtain ⟨v, rfl, kn, q⟩ := h
    obtain ⟨t, ty, kt⟩ := kn.ty
    refine ⟨_, (pss_one (ps_ret (pe_and (pe_callB (isiK (K := K)) (by rfl) T.n_isinstance (by decide +kernel) (pa_cons (pv 0) (pa_cons (pe_bltn (v := .ty "str") (by rfl) T.n_str (by decide +kernel) rfl) pa_nil))) (pe_one (pe_callB (allK (K := K) rfl) (by rfl) T.n_all (by decide +kernel) (pa_cons (pe_lc (own := [("sign", 1)]) (g := gName 1) (tt := tYes) rfl sc_is_text.nd (pi_str (pv 0)) (blkOk_by (N := nm_is_text) (sc := defScope s_is_text) (by decide +kernel)) (fun _ _ _ _ _ => (pg_name (i := 1) sc_is_text.nd rfl (Or.inl rfl))) (fun _ _ _ _ _ => pts_nil) (fun _ _ _ _ _ => (pe_cmpR op_inS (pv 1) (pe_glob (v := .str _) rfl T.m_SIGNS ⟨_, rfl⟩) (by rfl)))) pa_nil)))))), ?_⟩
    refine ⟨_, rfl, _, _, t, _, _, rfl, .ty _, ty, kt, _, rfl, ?_⟩
    cases v with
    | str z =>
      have hz := kn.len z rfl
      refine iteT ⟨_, rfl, z, rfl, fun D hD => lc_map (feeds_str z) (fun x => match x with | .str y => V.bl ((tl y).all fun c => decide (c ∈ sigs)) | _ => .non) hD (fun _ _ => trivial) (by rw [List.length_map, tl_len]; exact hz) ?_ ?_⟩
      · intro x hx H2 Q2 e2 k
        obtain ⟨c, hc, rfl⟩ := List.mem_map.mp hx
        refine ⟨_, rfl, c, SG, rfl, rfl, ?_⟩
        have := k H2 (Ex.refl _)
        simpa [sgn, tl, sigs] using this
      · intro H' e1 e2
        refine ⟨D, (tl z).map fun c => decide (c ∈ sigs), rfl, ?_, ?_⟩
        · refine .inl (.inl ?_)
          rw [e2, List.map_map, List.map_map]
          simp [Function.comp_def, sgn, tl]
        · have e : ((tl z).map fun c => decide (c ∈ sigs)).all id = isText (.str z) := by
            unfold isText
            rw [List.all_map]
            rfl
          rw [e]
          exact q _ e1
    | non => exact iteF (q _ (Ex.refl _))
    | bl _ => exact iteF (q _ (Ex.refl _))
    | int _ => exact iteF (q _ (Ex.refl _))
    | byt _ => exact iteF (q _ (Ex.refl _))
    | flt _ => exact iteF (q _ (Ex.refl _))
    | ref _ => exact iteF (q _ (Ex.refl _))
    | ty _ => exact iteF (q _ (Ex.refl _))
/-! ### is_path, is_path_pattern -/
theorem ok_is_path (T : Tx K mg) : FnOk P w K mg base CX0 2 T.a_is_path T.d_is_path ps_is_path (spB K isPath) := by
  have G_is_text := ok_is_text (P := P) (w := w) (base := base) T
  refine T.F_is_path.ok sc_is_path (fun vs H Q E h => ?_) (fun cdv A outer s H vs Q E hr h => ?_)
  · obtain ⟨v, rfl, _⟩ := h
    rfl
  · obtain ⟨v, rfl, kn, q⟩ := h
    refine ⟨_, (pss_one (ps_ret (pe_and (pe_call G_is_text (hr.mono (by first | decide | exact Nat.le_refl _)) rfl T.m_is_text T.k_is_text T.b_is_text .nil pass0 (pa_cons (pv 0) pa_nil)) (pe_one (pe_chain op_le op_le pe_int (pe_callB call_len_str (by rfl) T.n_len PySem.boot_len (pa_cons (pv 0) pa_nil)) (pe_glob (v := .int _) rfl T.m_MAX_PATH ⟨_, rfl⟩)))))), ?_⟩
    refine ⟨_, rfl, v, rfl, kn, fun H1 e1 => ⟨_, rfl, ?_⟩⟩
    have no : isText v = false → Q (.bl (isPath v)) H1 := fun z => by
      have : isPath v = false := by cases v <;> simp_all [isPath]
      rw [this]
      rw [this] at q
      exact q _ e1
    cases hv : isText v with
    | false => exact iteF (by rw [← hv, hv]; have := no hv; cases v <;> simp_all [isPath])
    | true =>
      cases v with
      | str z =>
        have hz := kn.len z rfl
        refine iteT ⟨_, rfl, z, rfl, sizeL hz, _, _, rfl, rfl, _, rfl, ?_⟩
        have e : isPath (.str z) = (decide ((1 : Int) ≤ z.length) && decide ((z.length : Int) ≤ 12)) := by
          simp only [isPath, hv, Bool.true_and]
          congr 1 <;> (apply decide_eq_decide.mpr; omega)
        rw [e] at q
        refine ite2 (fun h1 => ?_) (fun h1 => ?_)
        · refine ⟨_, _, rfl, rfl, ?_⟩
          rw [h1, Bool.true_and] at q
          exact q _ e1
        · rw [Bool.not_eq_true] at h1
          rw [h1, Bool.false_and] at q
          exact q _ e1
      | _ => simp [isText] at hv
theorem ok_is_path_pattern (T : Tx K mg) : FnOk P w K mg base CX0 1 T.a_is_path_pattern T.d_is_path_pattern ps_is_path_pattern (spB K isPat) := by
  refine T.F_is_path_pattern.ok sc_is_path_pattern (fun vs H Q E h => ?_) (fun cdv A outer s H vs Q E hr h => ?_)
  · obtain ⟨v, rfl, _⟩ := h
    rfl
  · obtain ⟨v, rfl, kn, q⟩ := h
    obtain ⟨t, ty, kt⟩ := kn.ty
    refine ⟨_, (pss_cons (ps_if (PW.pt (pw_or (pt_not (pt_val (pe_callB (isiK (K := K)) (by rfl) T.n_isinstance (by decide +kernel) (pa_cons (pv 0) (pa_cons (pe_bltn (v := .ty "str") (by rfl) T.n_str (by decide +kernel) rfl) pa_nil))))) (pw_or1 (pt_not (pt_chain op_le op_le pe_int (pe_callB call_len_str (by rfl) T.n_len PySem.boot_len (pa_cons (pv 0) pa_nil)) (pe_glob (v := .int _) rfl T.m_MAX_PATH ⟨_, rfl⟩)))))) (pss_one (ps_ret pe_bl)) pss_nil)
  (pss_one (ps_ret (pe_callB (allK (K := K) rfl) (by rfl) T.n_all (by decide +kernel) (pa_cons (pe_lc (own := [("one", 1)]) (g := gName 1) (tt := tYes) rfl sc_is_path_pattern.nd (pi_str (pv 0)) (blkOk_by (N := nm_is_path_pattern) (sc := defScope s_is_path_pattern) (by decide +kernel)) (fun _ _ _ _ _ => (pg_name (i := 1) sc_is_path_pattern.nd rfl (Or.inl rfl))) (fun _ _ _ _ _ => pts_nil) (fun _ _ _ _ _ => (pe_or (pe_cmpR op_inS (pv 1) (pe_glob (v := .str _) rfl T.m_SIGNS ⟨_, rfl⟩) (by rfl)) (pe_one (pe_cmpR (op_inK (K := K)) (pv 1) (pe_tup (pa_cons (pe_glob (v := .str _) rfl T.m_ANY ⟨_, rfl⟩) (pa_cons (pe_glob (v := .str _) rfl T.m_ONE ⟨_, rfl⟩) pa_nil))) (by rfl)))))) pa_nil))))), ?_⟩
    refine ⟨_, rfl, _, _, t, _, _, rfl, .ty _, ty, kt, _, rfl, ?_⟩
    cases v with
    | str z =>
      have hz := kn.len z rfl
      refine iteF ⟨_, rfl, z, rfl, sizeL hz, _, _, rfl, rfl, _, rfl, ?_⟩
      have e : isPat (.str z) = ((decide ((1 : Int) ≤ z.length) && decide ((z.length : Int) ≤ 12)) && (tl z).all patC) := by
        simp only [isPat]
        congr 2 <;> (apply decide_eq_decide.mpr; omega)
      refine ite2 (fun h1 => ?_) (fun h1 => ?_)
      · refine ⟨_, _, rfl, rfl, _, rfl, ?_⟩
        rw [h1] at e
        refine ite2 (fun h2 => ?_) (fun h2 => ?_)
        · rw [e] at q
          have h2' : decide ((z.length : Int) ≤ 12) = false := by simpa using h2
          rw [h2'] at q
          exact q _ (Ex.refl _)
        · have h2' : decide ((z.length : Int) ≤ 12) = true := by simpa using h2
          rw [e, h2'] at q
          refine ⟨_, rfl, z, rfl, fun D hD => lc_map (feeds_str z) (fun x => match x with | .str y => V.bl ((tl y).all patC) | _ => .non) hD (fun _ _ => trivial) (by rw [List.length_map, tl_len]; exact hz) ?_ ?_⟩
          · intro x hx H2 Q2 e2 k
            obtain ⟨c, hc, rfl⟩ := List.mem_map.mp hx
            have k' : ∀ H3, Ex H2 H3 → Q2 (.bl (patC c)) H3 := fun H3 e3 => by simpa [sgn, tl] using k H3 e3
            refine ⟨_, rfl, c, SG, rfl, rfl, _, rfl, ?_⟩
            refine ite2 (fun hs => ?_) (fun hs => ?_)
            · have : patC c = true := by unfold patC sigs; rw [hs]; rfl
              rw [← this]; exact k' _ (Ex.refl _)
            · refine ⟨_, rfl, by show 2 ≤ sizeLine; decide, fun p hp => ⟨p, _, rfl, .inr (SqT.of upd_same), rfl, rfl, ?_⟩⟩
              have : inV (.str (sgn c)) [V.str "*", V.str "?"] = patC c := by
                have hs' : decide (c ∈ sigs) = false := by simpa [sigs, tl] using hs
                unfold patC
                rw [hs', Bool.false_or]
                exact inV_pair c
              have kk := k' _ (Ex.new (o := .tup [V.str "*", V.str "?"]) hp)
              rw [← this] at kk
              exact kk
          · intro H' e1 e2
            refine ⟨D, (tl z).map patC, rfl, ?_, ?_⟩
            · refine .inl (.inl ?_)
              rw [e2, List.map_map, List.map_map]
              simp [Function.comp_def, sgn, tl]
            · have e : ((tl z).map patC).all id = (tl z).all patC := by
                rw [List.all_map]
                rfl
              rw [e]
              exact q _ e1
      · have h1' : decide ((1 : Int) ≤ z.length) = false := by simpa using h1
        rw [e, h1'] at q
        exact ⟨_, rfl, q _ (Ex.refl _)⟩
    | non => exact iteT (q _ (Ex.refl _))
    | bl _ => exact iteT (q _ (Ex.refl _))
    | int _ => exact iteT (q _ (Ex.refl _))
    | byt _ => exact iteT (q _ (Ex.refl _))
    | flt _ => exact iteT (q _ (Ex.refl _))
    | ref _ => exact iteT (q _ (Ex.refl _))
    | ty _ => exact iteT (q _ (Ex.refl _))
/-! ### require_path, fits -/
def spReq (K : PySem.W.Frag) (C : Addr) : Sp := fun vs H Q E => ∃ v, vs = [v] ∧ Known K H v ∧ (isPath v = true → ∀ H', Ex H H' → Q .non H') ∧ (isPath v = false → ∀ H', Ex H H' → E (.ref C) none H')
theorem pX {X : Cx} {E : XK} {H : Hp} : True := trivial
theorem ok_require_path (T : Tx K mg) : FnOk P w K mg base (L2.CX P w) 3 T.a_require_path T.d_require_path ps_require_path (spReq K T.c_InvalidText) := by
  have G_is_path := ok_is_path (P := P) (w := w) (base := base) T
  refine T.F_require_path.okX sc_require_path (fun vs H Q E h => ?_) (fun cdv A outer s H vs Q E hr h => ?_)
  · obtain ⟨v, rfl, _⟩ := h
    rfl
  · obtain ⟨v, rfl, kn, q1, q2⟩ := h
    refine ⟨_, (pss_one (ps_if (pt_not (pt_val (pe_call G_is_path (hr.mono (by first | decide | exact Nat.le_refl _)) rfl T.m_is_path T.k_is_path T.b_is_path .nil pass0 (pa_cons (pv 0) pa_nil)))) (pss_one (ps_raise rfl (takes_of rfl rfl rfl rfl) (pmk_own PySem.F.excBase_ValueError T.x_InvalidText T.m_InvalidText T.k_InvalidText (raises_own T.b_InvalidText T.t_InvalidText) rfl))) pss_nil)), ?_⟩
    refine ⟨_, rfl, v, rfl, kn, fun H1 e1 => ⟨_, rfl, ?_⟩⟩
    cases hv : isPath v with
    | true => exact iteF (q1 hv _ e1)
    | false => exact iteT (q2 hv _ e1)
end
end My
namespace My
open PySem PySem.Spec PyProof.Rows L2 Lk Evl
/-! ### places of a pattern -/
abbrev nV (n : Nat) : V := .int n
theorem inV_nats (n : Nat) : ∀ xs : List Nat, inV (.int n) (xs.map nV) = decide (n ∈ xs)
  | [] => rfl
  | x :: xs => by
    have ih := inV_nats n xs
    show (((x : Int) == (n : Int)) || inV (.int n) (xs.map nV)) = _
    rw [ih, Bool.eq_iff_iff, Bool.or_eq_true, beq_iff_eq, decide_eq_true_eq, decide_eq_true_eq, List.mem_cons]
    constructor
    · rintro (h | h)
      · left; omega
      · exact .inr h
    · rintro (h | h)
      · left; omega
      · exact .inr h
theorem flat_nats (xs : List Nat) : (xs.map nV).all flatV = true := by simp [flatV]
/-- the places of p behind the text t -/
structure Places (p t xs : List Nat) : Prop where
  mem : ∀ n, n ∈ xs ↔ n ≤ p.length ∧ Fm.mt (p.take n) t = true
  len : xs.length ≤ p.length + 1
section
variable {P : Program} {w : World} {K : PySem.W.Frag} {mg : Str → Option Value} {base : Heap}
/-! ### begun_places -/
def spBegun (K : PySem.W.Frag) : Sp := fun vs H Q _ => ∃ p : Str, vs = [.str p] ∧ p.length ≤ 1000 ∧ ∀ xs a H', Ex H H' → H' a = some (.tup (xs.map nV)) → Places (tl p) [] xs → Q (.ref a) H'
theorem mt_stars : ∀ {l : List Nat}, Fm.mt l [] = true ↔ ∀ c ∈ l, c = 42
  | [] => by simp [Fm.mt]
  | c :: l => by
    have ih := @mt_stars l
    unfold Fm.mt
    by_cases h : c = 42
    · rw [if_pos h, ih]; simp [h]
    · rw [if_neg h]; simp [h]
theorem ok_begun (T : Tx K mg) : FnOk P w K mg base CX0 1 T.a_begun_places T.d_begun_places ps_begun_places (spBegun K) := by
  refine T.F_begun_places.ok sc_begun_places (fun vs H Q E h => ?_) (fun cdv A outer s H vs Q E hr h => ?_)
  · obtain ⟨p, rfl, _⟩ := h
    rfl
  · obtain ⟨p, rfl, hp, q⟩ := h
    have hl := tl_len p
    have hl2 : p.cps.toList.length = p.length := tl_len p
    refine ⟨_, (pss_cons (ps_set (i := 1) sc_begun_places.nd rfl (Or.inl rfl) (pe_lst (pa_cons pe_int pa_nil)))
  (pss_cons (ps_while PassesOwn.never (PW.pt (pw_and (pt_cmpR op_le (pe_callB (len_seqK (K := K)) (by rfl) T.n_len PySem.boot_len (pa_cons (pv 1) pa_nil)) (pe_callB call_len_str (by rfl) T.n_len PySem.boot_len (pa_cons (pv 0) pa_nil)) (nomark _)) (pw_and1 (pt_cmpR op_eq (pe_ix ix_str (pv 0) (pe_op op_sub (pe_callB (len_seqK (K := K)) (by rfl) T.n_len PySem.boot_len (pa_cons (pv 1) pa_nil)) pe_int) (fun _ _ => rfl)) (pe_glob (v := .str _) rfl T.m_ANY ⟨_, rfl⟩) (nomark _))))) (pss_one (ps_expr (pe_bmK (K := K) PySem.F.plainAttrs_list PySem.F.slot_list_append PySem.F.type_list_append mt_append (pv 1) (pa_cons (pe_callB (len_seqK (K := K)) (by rfl) T.n_len PySem.boot_len (pa_cons (pv 1) pa_nil)) pa_nil)))))
  (pss_one (ps_ret (pe_callTy (tuple_ofK (K := K)) (by rfl) T.n_tuple (by decide +kernel) (pa_cons (pv 1) pa_nil)))))), ?_⟩
    refine ⟨by show 1 ≤ sizeLine; decide, fun F hF => ?_⟩
    refine ⟨fun k σ H1 => ∃ m, σ = [some (.str p), some (.ref F)] ∧ Ex H H1 ∧ H1 F = some (.lst ((List.range m).map nV)) ∧ 1 ≤ m ∧ m ≤ (tl p).length + 1 ∧ k = (tl p).length + 1 - m ∧ ∀ c ∈ (tl p).take (m - 1), c = 42,
      ⟨_, 1, rfl, Ex.new hF, upd_same, by omega, by omega, rfl, by simp⟩, ?_⟩
    rintro k σ H1 ⟨m, rfl, e1, hf, h1, h2, rfl, hall⟩
    have fin : (m = (tl p).length + 1 ∨ ∃ c, (tl p)[m - 1]? = some c ∧ c ≠ 42) → tRet (tCB (rTupOf K) (tCons (tVar 1) tNil)) { nx := fun _ H' => Q .non H', rt := Q } [some (.str p), some (.ref F)] H1 := fun hm => by
      refine ⟨_, rfl, F, _, rfl, .inl ⟨SqL.of hf, fun a ha => q (List.range m) a _ (e1.trans (Ex.new ha)) upd_same ⟨fun n => ?_, by rw [List.length_range]; omega⟩⟩⟩
      rw [List.mem_range, mt_stars]
      constructor
      · intro hn
        refine ⟨by omega, fun c hc => hall c ?_⟩
        exact (List.take_subset_take_left _ (by omega)) hc
      · rintro ⟨hn, hc⟩
        rcases hm with hm | ⟨c, hc1, hc2⟩
        · omega
        · by_cases hlt : n < m
          · exact hlt
          · exact absurd (hc c (by
              have : m - 1 < n := by omega
              exact List.mem_of_getElem? ((List.getElem?_take_of_lt this).trans hc1))) hc2
    refine ⟨_, rfl, F, _, rfl, .inl (SqL.of hf), _, rfl, p, rfl, sizeL (by omega), _, _, rfl, rfl, _, rfl, ?_⟩
    rw [List.length_map, List.length_range]
    refine ite2 (fun hlt => ?_) (fun hlt => ?_)
    · rw [decide_eq_true_eq] at hlt
      have hm : m - 1 < (tl p).length := by omega
      have hget : (tl p)[m - 1]? = some (tl p)[m - 1] := List.getElem?_eq_getElem hm
      have hat : atI (tl p) ((m : Int) - 1) = some (tl p)[m - 1] := by
        have : (m : Int) - 1 = ((m - 1 : Nat) : Int) := by omega
        rw [this]
        exact atI_nat hget
      refine ⟨_, rfl, _, rfl, F, _, rfl, .inl (SqL.of hf), _, _, rfl, rfl, p, _, _, rfl, rfl, sizeL (by omega), (by rw [List.length_map, List.length_range]; exact hat), rfl, _, rfl, ?_⟩
      refine ite2 (fun hs => ?_) (fun hs => ?_)
      · have hs' : (tl p)[m - 1] = 42 := by
          have := of_decide_eq_true hs
          have e2 := V.str.inj this
          rw [show Str.ofString "*" = sgn 42 from star_sgn] at e2
          exact sgn_inj.mp e2
        refine ⟨fun σ' H' => ∃ m', m' = m + 1 ∧ σ' = [some (.str p), some (.ref F)] ∧ Ex H H' ∧ H' F = some (.lst ((List.range m').map nV)), ?_, ?_⟩
        · rintro σ' H' ⟨m', rfl, rfl, e2, hf'⟩
          refine ⟨_, by omega, m + 1, rfl, e2, hf', by omega, by omega, rfl, fun c hc => ?_⟩
          have e3 : m + 1 - 1 = m - 1 + 1 := by omega
          rw [e3, List.take_succ, hget] at hc
          rcases List.mem_append.mp hc with hc | hc
          · exact hall c hc
          · simp at hc; rw [hc]; exact hs'
        · refine ⟨_, rfl, .inl ⟨rfl, _, SqL.of hf⟩, _, rfl, F, _, rfl, .inl (SqL.of hf), F, _, _, rfl, rfl, hf, ?_, m + 1, rfl, rfl, Ex.mut e1 hF, ?_⟩
          · rw [List.length_map, List.length_range]
            have := @sizeL (m + 1) (by omega)
            omega
          · rw [upd_same, List.length_map, List.length_range, List.range_succ, List.map_append]
            rfl
      · refine fin (.inr ⟨_, hget, fun z => hs ?_⟩)
        rw [decide_eq_true_eq]
        show V.str (sgn _) = V.str (Str.ofString "*")
        rw [show Str.ofString "*" = sgn 42 from star_sgn, z]
    · rw [decide_eq_true_eq] at hlt
      exact fin (.inl (by omega))
/-! ### later_places -/
def spLater (K : PySem.W.Frag) : Sp := fun vs H Q _ => ∃ (p : Str) (a : Addr) (s : Nat) (t xs : List Nat), vs = [.str p, .ref a, .str (sgn s)] ∧ p.length ≤ 1000 ∧ H a = some (.tup (xs.map nV)) ∧ Places (tl p) t xs ∧
  ∀ ys b H', Ex H H' → H' b = some (.tup (ys.map nV)) → Places (tl p) (t ++ [s]) ys → Q (.ref b) H'
theorem ok_later (T : Tx K mg) : FnOk P w K mg base CX0 1 T.a_later_places T.d_later_places ps_later_places (spLater K) := by
  refine T.F_later_places.ok sc_later_places (fun vs H Q E h => ?_) (fun cdv A outer s H vs Q E hr h => ?_)
  · obtain ⟨p, a, s, t, xs, rfl, _⟩ := h
    rfl
  · obtain ⟨p, a, s, t, xs, rfl, hp, ha, PL, q⟩ := h
    have hl := tl_len p
    have hl2 : p.cps.toList.length = p.length := tl_len p
    refine ⟨_, (pss_cons (ps_set (i := 3) sc_later_places.nd rfl (Or.inl rfl) (pe_lst pa_nil))
  (pss_cons (ps_for PassesOwn.never rfl (pi_enumS (by rfl) T.n_enumerate (pa_cons (pv 0) pa_nil)) (pg_tup rfl (pgs_cons (pg_name (i := 4) sc_later_places.nd rfl (Or.inl rfl)) (pgs_cons (pg_name (i := 5) sc_later_places.nd rfl (Or.inl rfl)) pgs_nil)))
    (Evl.pss_cut (ps_if (pt_cmpR op_eq (pv 5) (pe_glob (v := .str _) rfl T.m_ANY ⟨_, rfl⟩) (nomark _)) (pss_one (ps_set (i := 6) sc_later_places.nd rfl (Or.inl rfl) (pe_or (pe_cmpR (op_inK (K := K)) (pe_op op_add (pv 4) pe_int) (pv 1) (by rfl)) (pe_one (pe_cmpR (op_inK (K := K)) (pv 4) (pv 3) (by rfl)))))) (pss_one (ps_set (i := 6) sc_later_places.nd rfl (Or.inl rfl) (pe_and (pe_cmpR (op_inK (K := K)) (pv 4) (pv 1) (by rfl)) (pe_one (pe_cmpR (op_inK (K := K)) (pv 5) (pe_tup (pa_cons (pe_glob (v := .str _) rfl T.m_ONE ⟨_, rfl⟩) (pa_cons (pv 2) pa_nil))) (by rfl)))))))
  (pss_one (ps_if (pt_val (pv 6)) (pss_one (ps_expr (pe_bmK (K := K) PySem.F.plainAttrs_list PySem.F.slot_list_append PySem.F.type_list_append mt_append (pv 3) (pa_cons (pe_op op_add (pv 4) pe_int) pa_nil)))) pss_nil))))
  (pss_one (ps_ret (pe_callTy (tuple_ofK (K := K)) (by rfl) T.n_tuple (by decide +kernel) (pa_cons (pv 3) pa_nil)))))), ?_⟩
    refine ⟨by show 0 ≤ sizeLine; decide, fun F hF => ?_⟩
    -- the list so far: the places n <= i behind t ++ [s]
    refine ⟨_, rfl, p, rfl, for_enumS (fun i σ H1 => ∃ (v4 v5 v6 : Option V) (ys : List Nat), σ = [some (.str p), some (.ref a), some (.str (sgn s)), some (.ref F), v4, v5, v6] ∧ Ex H H1 ∧ H1 F = some (.lst (ys.map nV)) ∧ ys.length ≤ i ∧ ∀ n, n ∈ ys ↔ n ≤ i ∧ Fm.mt ((tl p).take n) (t ++ [s]) = true)
      ⟨none, none, none, [], rfl, Ex.new hF, upd_same, Nat.le_refl _, fun n => ?_⟩ ?_ ?_⟩
    · constructor
      · intro h; cases h
      · rintro ⟨h1, h2⟩
        have : n = 0 := by omega
        subst this
        rw [List.take_zero, Fm.end_nil] at h2
        cases h2
    · rintro i c Tp σ H1 hc ⟨v4, v5, v6, ys, rfl, e1, hf, hy1, hy2⟩ hT
      have hci := lt_get hc
      have e2 : Ex H1 (upd H1 Tp (.tup [.int (i : Nat), .str (sgn c)])) := Ex.new hT
      have ha2 := (e1.trans e2) _ _ ha
      have hf2 := e2 _ _ hf
      have htake : (tl p).take (i + 1) = (tl p).take i ++ [c] := by rw [List.take_succ, hc]; rfl
      refine ⟨Tp, _, rfl, SqT.of upd_same, rfl, _, _, rfl, _, _, rfl, rfl, ?_⟩
      -- the flag, then the store
      have finish : ∀ (b : Bool) (H3 : Hp), b = Fm.mt ((tl p).take (i + 1)) (t ++ [s]) → Ex (upd H1 Tp (.tup [.int (i : Nat), .str (sgn c)])) H3 →
          (fun σ' H' => tIfS (tB (tVar 6)) (tDrop (tBM K "list" rAppend (tVar 3) (tCons (tOp (rI0 fun i j => .int (i + j)) (tVar 4) (tC (.int 1))) tNil))) tNext
            { nx := fun σ H1 => ∃ (v4 v5 v6 : Option V) (ys : List Nat), σ = [some (.str p), some (.ref a), some (.str (sgn s)), some (.ref F), v4, v5, v6] ∧ Ex H H1 ∧ H1 F = some (.lst (ys.map nV)) ∧ ys.length ≤ i + 1 ∧ ∀ n, n ∈ ys ↔ n ≤ i + 1 ∧ Fm.mt ((tl p).take n) (t ++ [s]) = true, rt := Q } σ' H')
          [some (.str p), some (.ref a), some (.str (sgn s)), some (.ref F), some (.int (i : Nat)), some (.str (sgn c)), some (.bl b)] H3 := by
        intro b H3 hb e3
        refine ⟨_, rfl, _, rfl, ?_⟩
        have hf3 := e3 _ _ hf2
        cases b with
        | true =>
          refine iteT ⟨_, rfl, .inl ⟨rfl, _, SqL.of hf3⟩, _, rfl, _, _, rfl, rfl, F, _, _, rfl, rfl, hf3, ?_, _, _, _, ys ++ [i + 1], rfl, Ex.mut ((e1.trans e2).trans e3) hF, ?_, ?_, fun n => ?_⟩
          · rw [List.length_map]
            have := @sizeL (i + 1) (by omega)
            omega
          · rw [upd_same, List.map_append]
            rfl
          · rw [List.length_append]; simp; omega
          · rw [List.mem_append, hy2, List.mem_singleton]
            constructor
            · rintro (⟨x1, x2⟩ | rfl)
              · exact ⟨by omega, x2⟩
              · exact ⟨Nat.le_refl _, hb.symm⟩
            · rintro ⟨x1, x2⟩
              by_cases hn : n = i + 1
              · exact .inr hn
              · exact .inl ⟨by omega, x2⟩
        | false =>
          refine iteF ⟨_, _, _, ys, rfl, (e1.trans e2).trans e3, hf3, by omega, fun n => ?_⟩
          rw [hy2]
          constructor
          · rintro ⟨x1, x2⟩; exact ⟨by omega, x2⟩
          · rintro ⟨x1, x2⟩
            by_cases hn : n = i + 1
            · subst hn; rw [← hb] at x2; cases x2
            · exact ⟨by omega, x2⟩
      refine ⟨fun σ' H' => ∃ b, σ' = [some (.str p), some (.ref a), some (.str (sgn s)), some (.ref F), some (.int (i : Nat)), some (.str (sgn c)), some (.bl b)] ∧ b = Fm.mt ((tl p).take (i + 1)) (t ++ [s]) ∧ Ex (upd H1 Tp (.tup [.int (i : Nat), .str (sgn c)])) H', ?_, ?_⟩
      · refine ⟨_, rfl, rfl, _, rfl, ?_⟩
        refine ite2 (fun hs => ?_) (fun hs => ?_)
        · have hc42 : c = 42 := by
            have e2 := V.str.inj (of_decide_eq_true hs)
            rw [show Str.ofString "*" = sgn 42 from star_sgn] at e2
            exact sgn_inj.mp e2
          subst hc42
          refine ⟨_, rfl, _, _, rfl, rfl, _, rfl, a, _, rfl, .inr (SqT.of ha2), rfl, flat_nats _, _, rfl, ?_⟩
          have i1 : inV (.int ((i : Nat) + 1)) (xs.map nV) = decide (i + 1 ∈ xs) := inV_nats (i + 1) xs
          rw [if_neg Bool.false_ne_true, i1]
          refine ite2 (fun h1 => ?_) (fun h1 => ?_)
          · refine ⟨true, rfl, ?_, Ex.refl _⟩
            have := (PL.mem _).mp (of_decide_eq_true h1)
            rw [htake, Fm.end_star, ← htake, this.2, Bool.or_true]
          · refine ⟨_, rfl, _, rfl, F, _, rfl, .inl (SqL.of hf2), rfl, flat_nats _, ?_⟩
            rw [if_neg Bool.false_ne_true, inV_nats i ys]
            refine ⟨_, rfl, ?_, Ex.refl _⟩
            have h1' : Fm.mt ((tl p).take (i + 1)) t = false := by
              cases z : Fm.mt ((tl p).take (i + 1)) t with
              | false => rfl
              | true => exact absurd (decide_eq_true ((PL.mem _).mpr ⟨by omega, z⟩)) h1
            rw [htake, Fm.end_star, ← htake, h1', Bool.or_false, Bool.eq_iff_iff, decide_eq_true_eq, hy2]
            simp
        · have hc42 : c ≠ 42 := fun z => hs (by rw [decide_eq_true_eq]; show V.str (sgn c) = V.str (Str.ofString "*"); rw [show Str.ofString "*" = sgn 42 from star_sgn, z])
          refine ⟨_, rfl, _, rfl, a, _, rfl, .inr (SqT.of ha2), rfl, flat_nats _, _, rfl, ?_⟩
          rw [if_neg Bool.false_ne_true, inV_nats i xs]
          refine ite2 (fun h1 => ?_) (fun h1 => ?_)
          · refine ⟨_, rfl, _, rfl, by show 2 ≤ sizeLine; decide, fun u hu => ⟨u, _, rfl, .inr (SqT.of upd_same), rfl, rfl, ?_⟩⟩
            refine ⟨_, rfl, ?_, Ex.new hu⟩
            rw [if_neg Bool.false_ne_true, htake, Fm.end_one _ _ _ hc42, ((PL.mem _).mp (of_decide_eq_true h1)).2, Bool.and_true]
            show inV (.str (sgn c)) [V.str (Str.ofString "?"), V.str (sgn s)] = _
            rw [show Str.ofString "?" = sgn 63 from quest_sgn]
            simp only [inV, List.any_cons, List.any_nil, eqV, beq_sgn, Bool.or_false]
            rw [Bool.eq_iff_iff, Bool.or_eq_true, decide_eq_true_eq, decide_eq_true_eq, decide_eq_true_eq]
            omega
          · refine ⟨false, by simp at h1; simp [h1], ?_, Ex.refl _⟩
            have h1' : Fm.mt ((tl p).take i) t = false := by
              cases z : Fm.mt ((tl p).take i) t with
              | false => rfl
              | true => exact absurd (decide_eq_true ((PL.mem _).mpr ⟨by omega, z⟩)) h1
            rw [htake, Fm.end_one _ _ _ hc42, h1', Bool.and_false]
      · rintro σ' H' ⟨b, rfl, hb, e3⟩
        exact finish b H' hb e3
    · rintro σ H1 ⟨v4, v5, v6, ys, rfl, e1, hf, hy1, hy2⟩
      refine ⟨_, rfl, F, _, rfl, .inl ⟨SqL.of hf, fun b hb => q ys b _ (e1.trans (Ex.new hb)) upd_same ⟨hy2, by omega⟩⟩⟩
/-! ### does_fit, fits -/
def spDoes (K : PySem.W.Frag) : Sp := fun vs H Q _ => ∃ p t : Str, vs = [.str p, .str t] ∧ p.length ≤ 1000 ∧ ∀ H', Ex H H' → Q (.bl (Fm.mt (tl p) (tl t))) H'
theorem ok_does (T : Tx K mg) : FnOk P w K mg base CX0 2 T.a_does_fit T.d_does_fit ps_does_fit (spDoes K) := by
  have G_begun_places := ok_begun (P := P) (w := w) (base := base) T
  have G_later_places := ok_later (P := P) (w := w) (base := base) T
  refine T.F_does_fit.ok sc_does_fit (fun vs H Q E h => ?_) (fun cdv A outer s H vs Q E hr h => ?_)
  · obtain ⟨p, t, rfl, _⟩ := h
    rfl
  · obtain ⟨p, t, rfl, hp, q⟩ := h
    have hl := tl_len p
    refine ⟨_, (pss_cons (ps_set (i := 2) sc_does_fit.nd rfl (Or.inl rfl) (pe_call G_begun_places (hr.mono (by first | decide | exact Nat.le_refl _)) rfl T.m_begun_places T.k_begun_places T.b_begun_places .nil pass0 (pa_cons (pv 0) pa_nil)))
  (pss_cons (ps_for PassesOwn.never rfl (pi_str (pv 1)) (pg_name (i := 3) sc_does_fit.nd rfl (Or.inl rfl))
    (pss_one (ps_set (i := 2) sc_does_fit.nd rfl (Or.inl rfl) (pe_call G_later_places (hr.mono (by first | decide | exact Nat.le_refl _)) rfl T.m_later_places T.k_later_places T.b_later_places .nil pass0 (pa_cons (pv 0) (pa_cons (pv 2) (pa_cons (pv 3) pa_nil)))))))
  (pss_one (ps_ret (pe_cmpR (op_inK (K := K)) (pe_callB call_len_str (by rfl) T.n_len PySem.boot_len (pa_cons (pv 0) pa_nil)) (pv 2) (by rfl)))))), ?_⟩
    refine ⟨_, rfl, p, rfl, hp, fun xs a H1 e1 ha PL => ?_⟩
    refine ⟨_, rfl, t, rfl, for_str (fun i σ H2 => ∃ (b : Addr) (v3 : Option V) (ys : List Nat), σ = [some (.str p), some (.str t), some (.ref b), v3] ∧ Ex H H2 ∧ H2 b = some (.tup (ys.map nV)) ∧ Places (tl p) ((tl t).take i) ys)
      ⟨a, none, xs, rfl, e1, ha, PL⟩ ?_ ?_⟩
    · rintro i c σ H2 hc ⟨b, v3, ys, rfl, e2, hb, PL2⟩
      refine ⟨_, rfl, _, rfl, _, rfl, p, b, c, (tl t).take i, ys, rfl, hp, hb, PL2, fun zs d H3 e3 hd PL3 => ⟨d, _, zs, rfl, e2.trans e3, hd, ?_⟩⟩
      have : (tl t).take (i + 1) = (tl t).take i ++ [c] := by rw [List.take_succ, hc]; rfl
      rw [this]; exact PL3
    · rintro σ H2 ⟨b, v3, ys, rfl, e2, hb, PL2⟩
      rw [List.take_length] at PL2
      refine ⟨_, rfl, p, rfl, sizeL (by omega), _, rfl, b, _, rfl, .inr (SqT.of hb), rfl, flat_nats _, ?_⟩
      rw [if_neg Bool.false_ne_true, inV_nats p.length ys]
      have e : decide (p.length ∈ ys) = Fm.mt (tl p) (tl t) := by
        rw [Bool.eq_iff_iff, decide_eq_true_eq, PL2.mem, ← hl, List.take_length]
        simp
      rw [e]
      exact q _ e2
def spFits (K : PySem.W.Frag) (C : Addr) : Sp := fun vs H Q E => ∃ p t : V, vs = [p, t] ∧ Known K H p ∧ (∀ H', Ex H H' → Known K H' t) ∧
  (isPat p = true → isPath t = true → ∀ x y, p = .str x → t = .str y → ∀ H', Ex H H' → Q (.bl (Fm.mt (tl x) (tl y))) H') ∧ (isPat p = false ∨ isPath t = false → ∀ H', Ex H H' → E (.ref C) none H')
theorem ok_fits (T : Tx K mg) : FnOk P w K mg base (L2.CX P w) 4 T.a_fits T.d_fits ps_fits (spFits K T.c_InvalidText) := by
  have G_is_path_pattern := ok_is_path_pattern (P := P) (w := w) (base := base) T
  have G_require_path := ok_require_path (P := P) (w := w) (base := base) T
  have G_does_fit := ok_does (P := P) (w := w) (base := base) T
  refine T.F_fits.okX sc_fits (fun vs H Q E h => ?_) (fun cdv A outer s H vs Q E hr h => ?_)
  · obtain ⟨p, t, rfl, _⟩ := h
    rfl
  · obtain ⟨p, t, rfl, kp, kt, q1, q2⟩ := h
    refine ⟨_, (pss_cons (ps_if (pt_not (pt_val (pe_call G_is_path_pattern (hr.mono (by first | decide | exact Nat.le_refl _)) rfl T.m_is_path_pattern T.k_is_path_pattern T.b_is_path_pattern .nil pass0 (pa_cons (pv 0) pa_nil)))) (pss_one (ps_raise rfl (takes_of rfl rfl rfl rfl) (pmk_own PySem.F.excBase_ValueError T.x_InvalidText T.m_InvalidText T.k_InvalidText (raises_own T.b_InvalidText T.t_InvalidText) rfl))) pss_nil)
  (pss_cons (ps_expr (pe_callS G_require_path (hr.mono (by first | decide | exact Nat.le_refl _)) rfl T.m_require_path T.k_require_path T.b_require_path (fun σ => passAt (takes_of rfl rfl rfl rfl) σ) (pa_cons (pv 1) pa_nil)))
  (pss_one (ps_ret (pe_call G_does_fit (hr.mono (by first | decide | exact Nat.le_refl _)) rfl T.m_does_fit T.k_does_fit T.b_does_fit .nil pass0 (pa_cons (pv 0) (pa_cons (pv 1) pa_nil))))))), ?_⟩
    refine ⟨_, rfl, p, rfl, kp, fun H1 e1 => ⟨_, rfl, ?_⟩⟩
    cases hp : isPat p with
    | false => exact iteT (q2 (.inl hp) _ e1)
    | true =>
      refine iteF ⟨_, rfl, t, rfl, kt _ e1, fun ht H2 e2 => ?_, fun ht H2 e2 => q2 (.inr ht) _ (e1.trans e2)⟩
      cases p with
      | str x =>
        cases t with
        | str y =>
          have hx : x.length ≤ 12 := by
            simp only [isPat, Bool.and_eq_true, decide_eq_true_eq] at hp
            exact hp.1.2
          exact ⟨_, rfl, _, rfl, x, y, rfl, by omega, fun H3 e3 => q1 hp ht x y rfl rfl _ ((e1.trans e2).trans e3)⟩
        | _ => simp [isPath] at ht
      | _ => simp [isPat] at hp
end
end My
namespace My
open PySem PySem.Spec PyProof.Rows L2 Lk Evl
theorem roll_mut {d L : Addr} {H H' : Hp} {o : HO} (R : Roll d H H') (hL : H L = none) (hn : L ≠ d) : Roll d H (upd H' L o) := by
  refine ⟨?_, fun b o e n => ?_⟩
  · obtain ⟨a, b, c, e⟩ := R.dice
    exact ⟨a, b, c, by rw [upd_ne hn.symm]; exact e⟩
  · rw [upd_ne (ne_of_none e hL)]
    exact R.keep _ _ e n
theorem perm_erase : ∀ (l : List V) (n : Nat) (h : n < l.length), (l[n] :: l.eraseIdx n).Perm l
  | x :: l, 0, h => .refl _
  | x :: l, n + 1, h => by
    have h' : n < l.length := by simpa using h
    have ih := perm_erase l n h'
    show (l[n] :: x :: l.eraseIdx n).Perm (x :: l)
    exact (List.Perm.swap x l[n] _).trans (.cons x ih)
section
variable {P : Program} {w : World} {K : PySem.W.Frag} {mg : Str → Option Value} {base : Heap}
/-! ### dice -/
def spDice (K : PySem.W.Frag) : Sp := fun vs H Q _ => ∃ (a : Addr) (ns : List Int) (i : Nat), vs = [.ref a, .int i] ∧ SqL K H a (ns.map V.int) ∧
  ∀ (d : Addr) (H' : Hp), H d = none → Ex H H' → Dice H' d → Q (.ref d) H'
theorem ok_dice (T : Tx K mg) : FnOk P w K mg base CX0 1 T.a__law_dice T.d__law_dice ps__law_dice (spDice K) := by
  refine T.F__law_dice.ok sc__law_dice (fun vs H Q E h => ?_) (fun cdv A outer s H vs Q E hr h => ?_)
  · obtain ⟨a, ns, i, rfl, _⟩ := h
    rfl
  · obtain ⟨a, ns, i, rfl, hS, q⟩ := h
    refine ⟨_, (pss_cons (ps_set (i := 2) sc__law_dice.nd rfl (Or.inl rfl) (pe_op op_add (pe_op op_mul pe_int (pv 1)) pe_int))
  (Evl.pss_cut (ps_if (pt_cmpR op_lt (pv 1) (pe_callB (len_seqK (K := K)) (by rfl) T.n_len PySem.boot_len (pa_cons (pv 0) pa_nil)) (nomark _)) (pss_one (ps_set (i := 2) sc__law_dice.nd rfl (Or.inl rfl) (pe_ix (ix_listK (K := K)) (pv 0) (pv 1) (fun _ _ => rfl)))) pss_nil)
  (pss_cons (ps_set (i := 3) sc__law_dice.nd rfl (Or.inl rfl) (pe_op op_mod (pe_callTy call_int1 (by rfl) T.n_int (by decide +kernel) (pa_cons (pe_callB call_abs (by rfl) T.n_abs (by decide +kernel) (pa_cons (pv 2) pa_nil)) pa_nil)) (pe_op op_powB (pe_op op_powB pe_int pe_int) pe_int)))
  (pss_cons (ps_set (i := 4) sc__law_dice.nd rfl (Or.inl rfl) (pe_op op_add (pe_op op_add (pe_op op_add (pe_op op_mul (pe_op op_mod (pe_callTy call_int1 (by rfl) T.n_int (by decide +kernel) (pa_cons (pv 3) pa_nil)) pe_int) pe_int) (pe_op op_mul pe_int (pv 1))) (pe_op op_mul pe_int (pe_callTy call_int1 (by rfl) T.n_int (by decide +kernel) (pa_cons (pe_cmpR op_lt (pv 2) pe_int (nomark _)) pa_nil)))) pe_int))
  (pss_one (ps_ret (pe_lst (pa_cons (pe_callB (call_max2 rfl) (by rfl) T.n_max (by decide +kernel) (pa_cons pe_int (pa_cons (pe_op op_sub (pv 3) (pe_op op_powB pe_int pe_int)) pa_nil))) (pa_cons (pe_op op_mod (pe_callTy call_int1 (by rfl) T.n_int (by decide +kernel) (pa_cons (pv 4) pa_nil)) pe_int) (pa_cons pe_int pa_nil)))))))))), ?_⟩
    refine ⟨_, rfl, _, _, rfl, rfl, .inl (by decide), _, _, rfl, rfl, ?_⟩
    refine ⟨fun σ H1 => ∃ cell : Int, σ = [some (.ref a), some (.int i), some (.int cell), none, none] ∧ H1 = H, ?_, ?_⟩
    · refine ⟨_, rfl, _, rfl, a, _, rfl, .inl hS, _, _, rfl, rfl, _, rfl, ?_⟩
      refine ite2 (fun hlt => ?_) (fun hlt => ⟨_, rfl, rfl⟩)
      rw [decide_eq_true_eq, List.length_map] at hlt
      have hi : i < ns.length := by omega
      exact ⟨_, rfl, _, rfl, a, _, _, _, rfl, rfl, hS, atI_nat (j := i) (by rw [List.getElem?_map, List.getElem?_eq_getElem hi]; rfl), _, rfl, rfl⟩
    · rintro σ H1 ⟨cell, rfl, rfl⟩
      have big : (0 : Int) < ((10 : Int) ^ (60 : Nat)) ^ (12 : Nat) := by decide
      have bits : CPowB ((10 : Int) ^ (Int.toNat 60)) 12 := ⟨by decide, by decide +kernel⟩
      refine ⟨_, rfl, _, rfl, .inl ⟨_, rfl, _, _, rfl, rfl, ⟨by decide, by decide +kernel⟩, _, _, rfl, rfl, bits, _, _, rfl, rfl, big, ?_⟩⟩
      refine ⟨_, rfl, .inl ⟨_, rfl, _, _, rfl, rfl, (show (0 : Int) < 2147483399 by decide), _, _, rfl, rfl, .inr (by decide), _, rfl, _, _, rfl, rfl, .inl (by decide), _, _, rfl, rfl, ?_⟩⟩
      refine ⟨_, rfl, _, _, rfl, rfl, .inr ⟨_, rfl, _, _, rfl, rfl, .inl (by decide), _, _, rfl, rfl, _, _, rfl, rfl, ?_⟩⟩
      refine ⟨_, rfl, _, _, rfl, rfl, ⟨by decide, by decide +kernel⟩, _, _, rfl, rfl, _, _, rfl, _, rfl, .inl ⟨_, rfl, _, _, rfl, rfl, (show (0 : Int) < 2305843009213693907 by decide), by show 3 ≤ sizeLine; decide, fun d hd => ?_⟩⟩
      exact q d _ hd (Ex.new hd) Dice.upd
/-! ### roll -/
def spRoll : Sp := fun vs H Q _ => ∃ (d : Addr) (n : Int), vs = [.ref d, .int n] ∧ Dice H d ∧ 0 < n ∧ n < 1073741824 ∧ ∀ (r : Int) (H' : Hp), 0 ≤ r → r < n → Roll d H H' → Q (.int r) H'
theorem ok_roll (T : Tx K mg) : FnOk P w K mg base CX0 1 T.a__law_roll T.d__law_roll ps__law_roll spRoll := by
  refine T.F__law_roll.ok sc__law_roll (fun vs H Q E h => ?_) (fun cdv A outer s H vs Q E hr h => ?_)
  · obtain ⟨d, n, rfl, _⟩ := h
    rfl
  · obtain ⟨d, n, rfl, ⟨a, b, c, hd⟩, hn0, hn1, q⟩ := h
    refine ⟨_, (pss_cons (ps_if (pt_cmpR op_gt (pe_ix (ix_listK (K := K)) (pv 0) pe_int (fun _ _ => rfl)) pe_int (nomark _)) (pss_cons (ps_set (i := 2) sc__law_roll.nd rfl (Or.inl rfl) (pe_op op_mod (pe_callTy call_int1 (by rfl) T.n_int (by decide +kernel) (pa_cons (pe_ix (ix_listK (K := K)) (pv 0) pe_int (fun _ _ => rfl)) pa_nil)) (pv 1)))
  (pss_cons (ps_asg (pe_op op_fdiv (pe_ix (ix_listK (K := K)) (pv 0) pe_int (fun _ _ => rfl)) (pv 1)) (pg_sub (pv 0) pe_int set_list))
  (pss_one (ps_ret (pv 2))))) pss_nil)
  (pss_cons (ps_asg (pe_op op_add (pe_ix (ix_listK (K := K)) (pv 0) pe_int (fun _ _ => rfl)) pe_int) (pg_sub (pv 0) pe_int set_list))
  (pss_cons (ps_set (i := 3) sc__law_roll.nd rfl (Or.inl rfl) (pe_op op_mod (pe_callTy call_int1 (by rfl) T.n_int (by decide +kernel) (pa_cons (pe_op op_add (pe_ix (ix_listK (K := K)) (pv 0) pe_int (fun _ _ => rfl)) (pe_op op_mul pe_int (pe_ix (ix_listK (K := K)) (pv 0) pe_int (fun _ _ => rfl)))) pa_nil)) pe_int))
  (pss_cons (ps_set (i := 4) sc__law_roll.nd rfl (Or.inl rfl) (pe_op op_add (pe_op op_mul (pe_op op_mod (pe_callTy call_int1 (by rfl) T.n_int (by decide +kernel) (pa_cons (pe_op op_mul (pv 3) (pv 3)) pa_nil)) pe_int) (pv 3)) (pe_op op_mul pe_int (pe_ix (ix_listK (K := K)) (pv 0) pe_int (fun _ _ => rfl)))))
  (pss_cons (ps_set (i := 4) sc__law_roll.nd rfl (Or.inl rfl) (pe_op op_mod (pe_callTy call_int1 (by rfl) T.n_int (by decide +kernel) (pa_cons (pv 4) pa_nil)) pe_int))
  (pss_one (ps_ret (pe_op op_mod (pe_callTy call_int1 (by rfl) T.n_int (by decide +kernel) (pa_cons (pe_op op_fdiv (pv 4) pe_int) pa_nil)) (pv 1))))))))), ?_⟩
    have md : ∀ x : Int, 0 ≤ x % n ∧ x % n < n := fun x => ⟨Int.emod_nonneg _ (by omega), Int.emod_lt_of_pos _ hn0⟩
    refine ⟨_, rfl, _, _, _, _, rfl, rfl, SqL.of hd, rfl, _, _, rfl, rfl, _, rfl, ?_⟩
    refine ite2 (fun h0 => ?_) (fun h0 => ?_)
    · refine ⟨_, rfl, _, _, _, _, rfl, rfl, SqL.of hd, rfl, .inl ⟨_, rfl, _, rfl, _, _, rfl, rfl, hn0, ?_⟩⟩
      refine ⟨_, rfl, _, _, _, _, rfl, rfl, SqL.of hd, rfl, _, rfl, _, _, rfl, rfl, ⟨hn0, hn1⟩, _, rfl, _, _, _, _, rfl, rfl, hd, rfl, ?_⟩
      exact ⟨_, rfl, q _ _ (md _).1 (md _).2 Roll.upd⟩
    · refine ⟨_, rfl, _, _, _, _, rfl, rfl, SqL.of hd, rfl, _, _, rfl, rfl, _, rfl, _, _, _, _, rfl, rfl, hd, rfl, ?_⟩
      have hd2 := @upd_same H d (.lst [.int a, .int b, .int (c + 1)])
      refine ⟨_, rfl, _, _, _, _, rfl, rfl, SqL.of hd2, rfl, _, rfl, _, _, _, _, rfl, rfl, SqL.of hd2, rfl, _, _, rfl, rfl, .inl (by decide), _, _, rfl, rfl, .inl ⟨_, rfl, _, _, rfl, rfl, (show (0 : Int) < 2305843009213693951 by decide), ?_⟩⟩
      have m1 : ∀ x : Int, 0 ≤ x % 2305843009213693951 ∧ x % 2305843009213693951 < 2305843009213693951 := fun x => ⟨by omega, by omega⟩
      have m2 : ∀ x : Int, 0 ≤ x % 2305843009213693921 ∧ x % 2305843009213693921 < 2305843009213693921 := fun x => ⟨by omega, by omega⟩
      refine ⟨_, rfl, _, rfl, _, _, rfl, rfl, .inl ?_, .inl ⟨_, rfl, _, _, rfl, rfl, (show (0 : Int) < 2305843009213693921 by decide), _, rfl, _, _, rfl, rfl, .inl ?_, _, rfl, _, _, _, _, rfl, rfl, SqL.of hd2, rfl, _, _, rfl, rfl, .inl (by decide), _, _, rfl, rfl, ?_⟩⟩
      · have := m1 (b + 1000333 * (c + 1)); exact ⟨by omega, by omega⟩
      · have := m2 ((b + 1000333 * (c + 1)) % 2305843009213693951 * ((b + 1000333 * (c + 1)) % 2305843009213693951)); exact ⟨by omega, by omega⟩
      · refine ⟨_, rfl, .inl ⟨_, rfl, _, _, rfl, rfl, (show (0 : Int) < 2305843009213693907 by decide), ?_⟩⟩
        exact ⟨_, rfl, _, _, rfl, rfl, ⟨by decide, by decide⟩, .inl ⟨_, rfl, _, rfl, _, _, rfl, rfl, hn0, q _ _ (md _).1 (md _).2 Roll.upd⟩⟩
/-! ### one_of -/
def spOne : Sp := fun vs H Q _ => ∃ (d p : Addr) (xs : List V), vs = [.ref d, .ref p] ∧ Dice H d ∧ p ≠ d ∧ (H p = some (.lst xs) ∨ H p = some (.tup xs)) ∧ 0 < xs.length ∧ xs.length ≤ 1000000 ∧
  ∀ (v : V) (H' : Hp), v ∈ xs → Roll d H H' → Q v H'
theorem ok_one (T : Tx K mg) : FnOk P w K mg base CX0 2 T.a__law_one_of T.d__law_one_of ps__law_one_of spOne := by
  have G__law_roll := ok_roll (P := P) (w := w) (base := base) T
  refine T.F__law_one_of.ok sc__law_one_of (fun vs H Q E h => ?_) (fun cdv A outer s H vs Q E hr h => ?_)
  · obtain ⟨d, p, xs, rfl, _⟩ := h
    rfl
  · obtain ⟨d, p, xs, rfl, hd, hpd, hp, h0, h1, q⟩ := h
    refine ⟨_, (pss_one (ps_ret (pe_ix (ix_seqK (K := K)) (pv 1) (pe_call G__law_roll (hr.mono (by first | decide | exact Nat.le_refl _)) rfl T.m__law_roll T.k__law_roll T.b__law_roll .nil pass0 (pa_cons (pv 0) (pa_cons (pe_callB (len_seqK (K := K)) (by rfl) T.n_len PySem.boot_len (pa_cons (pv 1) pa_nil)) pa_nil))) (fun _ _ => rfl)))), ?_⟩
    refine ⟨_, rfl, _, rfl, _, rfl, p, xs, rfl, ?_, d, _, rfl, hd, by omega, by omega, fun r H' r0 r1 R => ?_⟩
    · rcases hp with hp | hp
      · exact .inl (SqL.of hp)
      · exact .inr (SqT.of hp)
    · obtain ⟨n, rfl⟩ : ∃ n : Nat, r = n := ⟨r.toNat, by omega⟩
      have hn : n < xs.length := by omega
      have hg : xs[n]? = some xs[n] := List.getElem?_eq_getElem hn
      have hm : xs[n] ∈ xs := List.getElem_mem hn
      rcases hp with hp | hp
      · exact .inl ⟨p, xs, _, _, rfl, rfl, SqL.of (R.keep _ _ hp hpd), atI_nat hg, q _ _ hm R⟩
      · exact .inr (.inl ⟨p, xs, _, _, rfl, rfl, SqT.of (R.keep _ _ hp hpd), atI_nat hg, q _ _ hm R⟩)
/-! ### mixed -/
def spMixed : Sp := fun vs H Q _ => ∃ (d p : Addr) (xs : List V), vs = [.ref d, .ref p] ∧ Dice H d ∧ p ≠ d ∧ H p = some (.lst xs) ∧ xs.length ≤ 1000000 ∧
  ∀ (b : Addr) (ys : List V) (H' : Hp), ys.Perm xs → H b = none → H' b = some (.lst ys) → Roll d H H' → Q (.ref b) H'
theorem ok_mixed (T : Tx K mg) : FnOk P w K mg base CX0 2 T.a__law_mixed T.d__law_mixed ps__law_mixed spMixed := by
  have G__law_roll := ok_roll (P := P) (w := w) (base := base) T
  refine T.F__law_mixed.ok sc__law_mixed (fun vs H Q E h => ?_) (fun cdv A outer s H vs Q E hr h => ?_)
  · obtain ⟨d, p, xs, rfl, _⟩ := h
    rfl
  · obtain ⟨d, p, xs, rfl, hd, hpd, hp, h1, q⟩ := h
    have hdn : ∃ o, H d = some o := by obtain ⟨a, b, c, e⟩ := hd; exact ⟨_, e⟩
    obtain ⟨od, hdo⟩ := hdn
    refine ⟨_, (pss_cons (ps_set (i := 2) sc__law_mixed.nd rfl (Or.inr rfl) (pe_callTy (list_ofK (K := K)) (by rfl) T.n_list (by decide +kernel) (pa_cons (pv 1) pa_nil)))
  (pss_one (ps_ret (pe_lc (own := [("turn", 3)]) (g := gName 3) (tt := tYes) rfl sc__law_mixed.nd (pi_range1 (by rfl) T.n_range (pa_cons (pe_callB (len_seqK (K := K)) (by rfl) T.n_len PySem.boot_len (pa_cons (pv 1) pa_nil)) pa_nil)) (blkOk_by (N := nm__law_mixed) (sc := defScope s__law_mixed) (by decide +kernel)) (fun _ _ _ _ _ => (pg_name (i := 3) sc__law_mixed.nd rfl (Or.inl rfl))) (fun _ _ _ _ _ => pts_nil) (fun _ _ _ _ _ => (pe_bmK (K := K) PySem.F.plainAttrs_list PySem.F.slot_list_pop PySem.F.type_list_pop mt_popAt (pv 2) (pa_cons (pe_call G__law_roll (hr.mono (by first | decide | exact Nat.le_refl _)) rfl T.m__law_roll T.k__law_roll T.b__law_roll .nil pass0 (pa_cons (pv 0) (pa_cons (pe_callB (len_seqK (K := K)) (by rfl) T.n_len PySem.boot_len (pa_cons (pv 2) pa_nil)) pa_nil))) pa_nil))))))), ?_⟩
    refine ⟨_, rfl, p, xs, rfl, .inl (SqL.of hp), fun L hL => ?_⟩
    have hp1 : (upd H L (.lst xs)) p = some (.lst xs) := (Ex.new hL) _ _ hp
    refine ⟨_, rfl, p, xs, rfl, .inl (SqL.of hp1), _, rfl, by omega, by have := h1; omega, fun D hD => ?_⟩
    have hLd : L ≠ d := fun e => by rw [e, hdo] at hL; cases hL
    have hDd : D ≠ d := fun e => by rw [e, upd_ne hLd.symm, hdo] at hD; cases hD
    have hDL : D ≠ L := fun e => by rw [e, upd_same] at hD; cases hD
    have hDn : H D = none := by rw [upd_ne hDL] at hD; exact hD
    have hn : (xs.length : Int).toNat = xs.length := by omega
    rw [hn]
    refine lc_of (feeds_range 0 xs.length) (fun i H1 => ∃ rest acc, (acc ++ rest).Perm xs ∧ acc.length = i ∧ rest.length + i = xs.length ∧ H1 L = some (.lst rest) ∧ H1 D = some (.lst acc) ∧ Roll d H H1)
      ⟨xs, [], .refl _, rfl, rfl, by rw [upd_ne hDL.symm, upd_same], upd_same, (Roll.of_ex hd (Ex.new hL)).ex (Ex.new hD)⟩ (fun _ _ _ => trivial) ?_ ?_
    · rintro i x H1 hx ⟨rest, acc, pm, ha, hr1, hL1, hD1, R1⟩
      have hi := lt_get hx
      rw [List.length_map, List.length_range] at hi
      refine ⟨rfl, _, rfl, .inl ⟨rfl, _, SqL.of hL1⟩, _, rfl, _, rfl, L, rest, rfl, .inl (SqL.of hL1), d, _, rfl, R1.dice, by omega, by omega, fun r H2 r0 r1 R2 => ?_⟩
      obtain ⟨n, rfl⟩ : ∃ n : Nat, r = n := ⟨r.toNat, by omega⟩
      have hnr : n < rest.length := by omega
      have hL2 := R2.keep _ _ hL1 hLd
      have hD2 := R2.keep _ _ hD1 hDd
      refine ⟨L, rest, n, n, rest[n], rfl, rfl, hL2, by omega, by omega, (ixN_seq (by unfold ixN; rw [if_pos (by omega), if_pos (by omega)]; rfl)).1, List.getElem?_eq_getElem hnr, acc, by rw [upd_ne hDL]; exact hD2, ?_, rest.eraseIdx n, acc ++ [rest[n]], ?_, by simp [ha], ?_, ?_, upd_same, ?_⟩
      · have := @sizeL xs.length h1
        omega
      · refine List.Perm.trans ?_ pm
        rw [List.append_assoc]
        refine List.Perm.append_left acc ?_
        exact perm_erase _ _ hnr
      · rw [List.length_eraseIdx, if_pos hnr]; omega
      · rw [upd_ne hDL.symm, upd_same]
      · exact roll_mut (roll_mut (R1.trans R2) hL hLd) hDn hDd
    · rintro H1 ⟨rest, acc, pm, ha, hr1, hL1, hD1, R1⟩
      have : rest = [] := List.eq_nil_of_length_eq_zero (by rw [List.length_map, List.length_range] at hr1; omega)
      subst this
      rw [List.append_nil] at pm
      exact q D acc _ pm hDn hD1 R1
end
end My
namespace My
open PySem PySem.Spec PyProof.Rows L2 Lk Evl
theorem Roll.fresh {d a : Addr} {H H' : Hp} (R : Roll d H H') (h : H' a = none) : H a = none := by
  cases z : H a with
  | none => rfl
  | some o =>
    exfalso
    by_cases e : a = d
    · obtain ⟨x1, x2, x3, q⟩ := R.dice
      rw [e, q] at h; cases h
    · have := R.keep _ _ z e
      rw [this] at h; cases h
abbrev sV (c : Nat) : V := .str (sgn c)
section
variable {P : Program} {w : World} {K : PySem.W.Frag} {mg : Str → Option Value} {base : Heap}
/-! ### signs -/
def spAll : Sp := fun vs H Q _ => vs = [] ∧ ∀ H', Ex H H' → Q (.str SG) H'
theorem ok_all (T : Tx K mg) : FnOk P w K mg base CX0 1 T.a__law_all_signs T.d__law_all_signs ps__law_all_signs spAll := by
  refine T.F__law_all_signs.ok sc__law_all_signs (fun vs H Q E h => ?_) (fun cdv A outer s H vs Q E hr h => ?_)
  · obtain ⟨rfl, _⟩ := h
    rfl
  · obtain ⟨rfl, q⟩ := h
    exact ⟨_, (pss_one (ps_ret pe_str)), q _ (Ex.refl _)⟩
/-- a tuple of signs -/
def SignsAt (H : Hp) (a : Addr) (cs : List Nat) (n : Nat) : Prop := H a = some (.tup (cs.map sV)) ∧ 1 ≤ cs.length ∧ cs.length ≤ n ∧ ∀ c ∈ cs, c ∈ sigs
def spSigns : Sp := fun vs H Q _ => ∃ (d : Addr) (n : Nat), vs = [.ref d, .int n] ∧ Dice H d ∧ 0 < n ∧ n ≤ 5 ∧ ∀ (a : Addr) (cs : List Nat) (H' : Hp), H a = none → SignsAt H' a cs n → Roll d H H' → Q (.ref a) H'
theorem perm_sgn {ys : List Str} {l : List Nat} (h : (ys.map V.str).Perm (l.map sV)) : ∃ cs : List Nat, ys.map V.str = cs.map sV ∧ cs.Perm l := by
  have e : (l.map sV) = (l.map sgn).map V.str := by rw [List.map_map]; rfl
  rw [e] at h
  have h2 : ys.Perm (l.map sgn) := by
    have inj : ∀ {a b : List Str}, (a.map V.str).Perm (b.map V.str) → a.Perm b := fun {a b} h => by
      have := h.map (fun v => match v with | V.str z => z | _ => Str.empty)
      simpa [List.map_map, Function.comp_def] using this
    exact inj h
  have all : ∀ y ∈ ys, ∃ c ∈ l, y = sgn c := fun y hy => by
    have := h2.mem_iff.mp hy
    obtain ⟨c, hc, rfl⟩ := List.mem_map.mp this
    exact ⟨c, hc, rfl⟩
  refine ⟨ys.map fun y => y.cps.toList.headD 0, ?_, ?_⟩
  · rw [List.map_map]
    refine List.map_congr_left fun y hy => ?_
    obtain ⟨c, _, rfl⟩ := all y hy
    simp [sgn]
  · have := h2.map (fun y : Str => y.cps.toList.headD 0)
    rw [List.map_map] at this
    have e2 : (l.map ((fun y : Str => y.cps.toList.headD 0) ∘ sgn)) = l := by
      rw [show ((fun y : Str => y.cps.toList.headD 0) ∘ sgn) = id from by funext c; simp [sgn]]
      exact List.map_id l
    rw [e2] at this
    exact this
theorem ok_signs (T : Tx K mg) : FnOk P w K mg base CX0 3 T.a__law_signs T.d__law_signs ps__law_signs spSigns := by
  have G__law_roll := ok_roll (P := P) (w := w) (base := base) T
  have G__law_all_signs := ok_all (P := P) (w := w) (base := base) T
  have G__law_mixed := ok_mixed (P := P) (w := w) (base := base) T
  refine T.F__law_signs.ok sc__law_signs (fun vs H Q E h => ?_) (fun cdv A outer s H vs Q E hr h => ?_)
  · obtain ⟨d, n, rfl, _⟩ := h
    rfl
  · obtain ⟨d, n, rfl, hd, h0, h1, q⟩ := h
    refine ⟨_, (pss_cons (ps_par (i := 2) (j := 3) rfl sc__law_signs.nd rfl rfl (by decide) rfl rfl (pa_cons (pe_ifExp (PW.pt (pw_and (pt_cmpR op_lt (pv 1) pe_int (nomark _)) (pw_and1 (pt_cmpR op_gt (pe_call G__law_roll (hr.mono (by first | decide | exact Nat.le_refl _)) rfl T.m__law_roll T.k__law_roll T.b__law_roll .nil pass0 (pa_cons (pv 0) (pa_cons pe_int pa_nil))) pe_int (nomark _))))) pe_str (pe_call0 G__law_all_signs (hr.mono (by first | decide | exact Nat.le_refl _)) rfl T.m__law_all_signs T.k__law_all_signs T.b__law_all_signs .nil pass0)) (pa_cons (pe_op op_add pe_int (pe_call G__law_roll (hr.mono (by first | decide | exact Nat.le_refl _)) rfl T.m__law_roll T.k__law_roll T.b__law_roll .nil pass0 (pa_cons (pv 0) (pa_cons (pv 1) pa_nil)))) pa_nil)) (by rfl))
  (pss_one (ps_ret (pe_callTy (tuple_ofK (K := K)) (by rfl) T.n_tuple (by decide +kernel) (pa_cons (pe_callB (sortedSK (K := K)) (by rfl) T.n_sorted (by decide +kernel) (pa_cons (pe_slice (sl_listK (K := K)) (pe_call G__law_mixed (hr.mono (by first | decide | exact Nat.le_refl _)) rfl T.m__law_mixed T.k__law_mixed T.b__law_mixed .nil pass0 (pa_cons (pv 0) (pa_cons (pe_callTy (call_list_str rfl) (by rfl) T.n_list (by decide +kernel) (pa_cons (pv 2) pa_nil)) pa_nil))) po_none (po_some (pv 3))) pa_nil)) pa_nil))))), ?_⟩
    have rest : ∀ (pool : Str) (r : Int) (H2 : Hp), Roll d H H2 → (∀ c ∈ tl pool, c ∈ sigs) → 5 ≤ (tl pool).length → (tl pool).length ≤ 60 → 0 ≤ r → r < n →
        tRet (tCB (rTupOf K) (tCons (tCB (rSortedS K) (tCons (tSl (rSlL K) (tCall spMixed [] E0 (tCons (tVar 0) (tCons (tCB (fun xs H Q => ∃ z : Str, xs = [.str z] ∧ z.length ≤ sizeLine ∧ ∀ l, H l = none → Q (.ref l) (upd H l (.lst (z.cps.toList.map fun c => .str (sgn c))))) (tCons (tVar 2) tNil)) tNil))) tNoPart (tPart (tVar 3))) tNil)) tNil))
          { nx := fun _ H' => Q .non H', rt := Q } [some (.ref d), some (.int n), some (.str pool), some (.int (1 + r))] H2 := by
      intro pool r H2 R hp h5 h60 r0 r1
      have hpl := tl_len pool
      have hdn : ∃ o, H2 d = some o := by obtain ⟨a, b, c, e⟩ := R.dice; exact ⟨_, e⟩
      obtain ⟨od, hdo⟩ := hdn
      refine ⟨_, rfl, _, rfl, pool, rfl, sizeL (by omega), fun L hL => ⟨d, L, _, rfl, ?_, ?_, upd_same, ?_, fun b ys H3 pm hbn hb R3 => ⟨_, rfl, 1 + r, rfl, b, ys, rfl, SqL.of hb, fun p hpn => ?_⟩⟩⟩
      · exact (R.ex (Ex.new hL)).dice
      · intro e; rw [e, hdo] at hL; cases hL
      · rw [List.length_map]; show (tl pool).length ≤ _; omega
      · obtain ⟨cs, e1, pc⟩ : ∃ cs : List Nat, ys = cs.map sV ∧ cs.Perm (tl pool) := by
          have all : ∀ y ∈ ys, ∃ z : Str, y = V.str z := fun y hy => by
            obtain ⟨c, _, e⟩ := List.mem_map.mp (pm.mem_iff.mp hy)
            exact ⟨_, e.symm⟩
          have e0 : ys = (ys.map fun v => match v with | V.str z => z | _ => Str.empty).map V.str := by
            rw [List.map_map]
            refine (List.map_id ys).symm.trans (List.map_congr_left fun y hy => ?_)
            obtain ⟨z, rfl⟩ := all y hy
            rfl
          rw [e0] at pm ⊢
          exact perm_sgn pm
        have hcut : cutV ys none (some (1 + r)) = (cs.take (1 + r).toNat).map sV := by
          obtain ⟨k, rfl⟩ : ∃ k : Nat, r = k := ⟨r.toNat, by omega⟩
          have hlen : cs.length = (tl pool).length := pc.length_eq
          unfold cutV
          rw [e1]
          have s1 : HT.sIx (cs.map sV).length (cs.map sV).length (some (1 + (k : Int))) = min (1 + k) (cs.map sV).length := by
            have := HT.sIx_nat (cs.map sV).length (cs.map sV).length (1 + k)
            rw [← this]; congr 1
          rw [HT.sIx_none, s1, List.drop_zero, Nat.sub_zero, List.map_take]
          rw [List.length_map]
          have : (1 + (k : Int)).toNat = 1 + k := by omega
          rw [this, Nat.min_eq_left (by omega)]
        have hcut2 : cutV ys none (some (1 + r)) = ((cs.take (1 + r).toNat).map sgn).map V.str := by rw [hcut, List.map_map]; rfl
        have hlen : cs.length = (tl pool).length := pc.length_eq
        refine ⟨p, (cs.take (1 + r).toNat).map sgn, rfl, .inl (.inl (by rw [upd_same, hcut2])), by rw [List.length_map, List.length_take]; omega, fun zs o pz _ ho => ?_⟩
        refine ⟨o, _, rfl, .inl ⟨SqL.of upd_same, fun a ha => ?_⟩⟩
        have pz' : (zs.map V.str).Perm ((cs.take (1 + r).toNat).map sV) := by
          have := pz.map V.str
          rw [List.map_map] at this
          exact this
        obtain ⟨ds, e2, pd⟩ := perm_sgn pz'
        have R4 : Roll d H (upd (upd (upd H3 p (.lst (cutV ys none (some (1 + r))))) o (.lst (zs.map V.str))) a (.tup (zs.map V.str))) :=
          ((((R.ex (Ex.new hL)).trans R3).ex (Ex.new hpn)).ex (Ex.new ho)).ex (Ex.new ha)
        have hfr : H a = none := ((((R.ex (Ex.new hL)).trans R3).ex (Ex.new hpn)).ex (Ex.new (o := .lst (zs.map V.str)) ho)).fresh ha
        refine q a ds _ hfr ⟨by rw [upd_same, e2], ?_, ?_, fun c hc => ?_⟩ R4
        · rw [pd.length_eq, List.length_take]; omega
        · rw [pd.length_eq, List.length_take]; omega
        · exact hp c (pc.mem_iff.mp (List.mem_of_mem_take (pd.mem_iff.mp hc)))
    have p1 : (∀ c ∈ tl ("$:_ab" : Str), c ∈ sigs) ∧ 5 ≤ (tl ("$:_ab" : Str)).length ∧ (tl ("$:_ab" : Str)).length ≤ 60 := by decide +kernel
    have p2 : (∀ c ∈ tl SG, c ∈ sigs) ∧ 5 ≤ (tl SG).length ∧ (tl SG).length ≤ 60 := by decide +kernel
    refine ⟨_, rfl, _, _, rfl, rfl, _, rfl, ?_⟩
    refine ite2 (fun hlt => ?_) (fun hlt => ?_)
    · refine ⟨_, rfl, d, _, rfl, hd, by omega, by omega, fun r H1 r0 r1 R => ⟨_, _, rfl, rfl, _, rfl, ?_⟩⟩
      refine ite2 (fun hgt => ?_) (fun hgt => ?_)
      · exact ⟨_, rfl, _, rfl, d, n, rfl, R.dice, by omega, by omega, fun r H2 r0 r1 R2 => ⟨_, _, rfl, rfl, _, _, rfl, rest _ r H2 (R.trans R2) p1.1 p1.2.1 p1.2.2 r0 r1⟩⟩
      · exact ⟨rfl, fun H3 e3 => ⟨_, rfl, _, rfl, d, n, rfl, (R.ex e3).dice, by omega, by omega, fun r H2 r0 r1 R2 => ⟨_, _, rfl, rfl, _, _, rfl, rest _ r H2 ((R.ex e3).trans R2) p2.1 p2.2.1 p2.2.2 r0 r1⟩⟩⟩
    · have R : Roll d H H := Roll.refl hd
      exact ⟨rfl, fun H3 e3 => ⟨_, rfl, _, rfl, d, n, rfl, (R.ex e3).dice, by omega, by omega, fun r H2 r0 r1 R2 => ⟨_, _, rfl, rfl, _, _, rfl, rest _ r H2 ((R.ex e3).trans R2) p2.1 p2.2.1 p2.2.2 r0 r1⟩⟩⟩
end
end My
namespace My
open PySem PySem.Spec PyProof.Rows L2 Lk Evl
/-- all signs of z are among l -/
def Over (l : List Nat) (z : Str) : Prop := ∀ c ∈ tl z, c ∈ l
theorem tl_app (x y : Str) : tl (x ++ y) = tl x ++ tl y := TL.tl_append x y
theorem len_app (x y : Str) : (x ++ y).length = x.length + y.length := by rw [← tl_len, tl_app, List.length_append, tl_len, tl_len]
theorem tl_sgn (c : Nat) : tl (sgn c) = [c] := rfl
theorem len_sgn (c : Nat) : (sgn c).length = 1 := rfl
section
variable {P : Program} {w : World} {K : PySem.W.Frag} {mg : Str → Option Value} {base : Heap}
/-! ### texts -/
def spTexts : Sp := fun vs H Q _ => ∃ (a : Addr) (n : Nat) (cs : List Nat), vs = [.ref a, .int n] ∧ H a = some (.tup (cs.map sV)) ∧ cs.length ≤ 15 ∧ n ≤ 4 ∧
  ∀ (p : Addr) (zs : List Str) (H' : Hp), H p = none → Ex H H' → H' p = some (.lst ((Str.empty :: zs).map V.str)) → zs.length ≤ 70000 → (∀ z ∈ zs, 1 ≤ z.length ∧ z.length ≤ n ∧ Over cs z) → Q (.ref p) H'
theorem ok_texts (T : Tx K mg) : FnOk P w K mg base CX0 1 T.a__law_texts T.d__law_texts ps__law_texts spTexts := by
  refine T.F__law_texts.ok sc__law_texts (fun vs H Q E h => ?_) (fun cdv A outer s H vs Q E hr h => ?_)
  · obtain ⟨a, n, cs, rfl, _⟩ := h
    rfl
  · obtain ⟨a, n, cs, rfl, ha, h15, hn, q⟩ := h
    refine ⟨_, (pss_cons (ps_asg (pe_tup (pa_cons (pe_lst (pa_cons pe_str pa_nil)) (pa_cons pe_int pa_nil))) (pg_tup rfl (pgs_cons (pg_name (i := 2) sc__law_texts.nd rfl (Or.inr rfl)) (pgs_cons (pg_name (i := 3) sc__law_texts.nd rfl (Or.inl rfl)) pgs_nil))))
  (pss_cons (ps_for PassesOwn.never rfl (pi_range1 (by rfl) T.n_range (pa_cons (pv 1) pa_nil)) (pg_name (i := 4) sc__law_texts.nd rfl (Or.inl rfl))
    (pss_cons (ps_set (i := 5) sc__law_texts.nd rfl (Or.inl rfl) (pe_callB (len_seqK (K := K)) (by rfl) T.n_len PySem.boot_len (pa_cons (pv 2) pa_nil)))
  (pss_cons (ps_for PassesOwn.never rfl (pi_range2 (by rfl) T.n_range (pa_cons (pv 3) (pa_cons (pv 5) pa_nil))) (pg_name (i := 6) sc__law_texts.nd rfl (Or.inr rfl))
    (pss_one (ps_expr (pe_bmK (K := K) PySem.F.plainAttrs_list PySem.F.slot_list_extend PySem.F.type_list_extend mt_extend (pv 2) (pa_cons (pe_lc (own := [("sign", 7)]) (g := gName 7) (tt := tYes) rfl sc__law_texts.nd (pi_tupK (K := K) (pv 0)) (blkOk_by (N := nm__law_texts) (sc := defScope s__law_texts) (by decide +kernel)) (fun _ _ _ _ _ => (pg_name (i := 7) sc__law_texts.nd rfl (Or.inl rfl))) (fun _ _ _ _ _ => pts_nil) (fun _ _ _ _ _ => (pe_op op_add_str (pe_ix (ix_listK (K := K)) (pv 2) (pv 6) (fun _ _ => rfl)) (pv 7)))) pa_nil)))))
  (pss_one (ps_set (i := 3) sc__law_texts.nd rfl (Or.inl rfl) (pv 5))))))
  (pss_one (ps_ret (pv 2))))), ?_⟩
    refine ⟨by show 1 ≤ sizeLine; decide, fun F hF => ⟨by show 2 ≤ sizeLine; decide, fun tp htp => ⟨tp, _, rfl, SqT.of upd_same, rfl, _, _, rfl, _, _, rfl, rfl, ?_⟩⟩⟩
    have nF : tp ≠ F := fun e => by rw [e, upd_same] at htp; cases htp
    refine ⟨_, rfl, _, rfl, by omega, by omega, for_of (feeds_range 0 _) (fun i σ H1 => ∃ (zs : List Str) (st : Nat) (v4 v5 v6 v7 : Option V), σ = [some (.ref a), some (.int n), some (.ref F), some (.int st), v4, v5, v6, v7] ∧ Ex H H1 ∧ H1 F = some (.lst ((Str.empty :: zs).map V.str)) ∧
        zs.length + 1 ≤ 16 ^ i ∧ st ≤ zs.length + 1 ∧ (∀ z ∈ zs, 1 ≤ z.length ∧ z.length ≤ i ∧ Over cs z)) ⟨[], 0, none, none, none, none, rfl, (Ex.new hF).trans (Ex.new htp), ?_, by decide, by decide, fun z h => nomatch h⟩ (fun _ _ _ _ => trivial) ?_ ?_⟩
    · rw [upd_ne nF.symm, upd_same]
      rfl
    · rintro i x σ H1 hx ⟨zs, st, v4, v5, v6, v7, rfl, e1, hf, hz, hst, hall⟩
      have hi : i < n := by
        have := lt_get hx
        rw [List.length_map, List.length_range] at this
        omega
      have hpow : 16 ^ (i + 1) ≤ 16 ^ 4 := Nat.pow_le_pow_right (by decide) (by omega)
      have hpow2 : 16 ^ (i + 1) = 16 ^ i * 16 := Nat.pow_succ ..
      have h65 : (16 : Nat) ^ 4 = 65536 := by decide
      refine ⟨_, rfl, F, _, rfl, .inl (SqL.of hf), ?_⟩
      rw [List.length_map, List.length_cons]
      refine ⟨_, rfl, _, rfl, _, _, rfl, ⟨?_, ?_, ?_, ?_⟩, for_of (feeds_range _ _) (fun j σ H2 => ∃ (more : List Str) (v6 v7 : Option V), σ = [some (.ref a), some (.int n), some (.ref F), some (.int st), some x, some (.int ((zs.length + 1 : Nat) : Int)), v6, v7] ∧ Ex H H2 ∧ H2 F = some (.lst (((Str.empty :: zs) ++ more).map V.str)) ∧
          more.length ≤ j * 15 ∧ (∀ z ∈ more, 1 ≤ z.length ∧ z.length ≤ i + 1 ∧ Over cs z)) ⟨[], _, _, rfl, e1, by rw [List.append_nil]; exact hf, Nat.zero_le _, fun z h => nomatch h⟩ (fun _ _ _ _ => trivial) ?_ ?_⟩
      · omega
      · omega
      · omega
      · omega
      · rintro j y σ H2 hy ⟨more, v6, v7, rfl, e2, hf2, hm, hmall⟩
        have hj := lt_get hy
        rw [List.length_map, List.length_range] at hj
        have hy' : y = .int ((st : Int) + (j : Nat)) := by
          rw [List.getElem?_map, List.getElem?_range hj] at hy
          exact (Option.some.inj hy).symm
        subst hy'
        have hlt : st + j < (Str.empty :: zs).length := by rw [List.length_cons]; omega
        have hall0 : ∀ z ∈ Str.empty :: zs, z.length ≤ i ∧ Over cs z := fun z hz => by
          rcases List.mem_cons.mp hz with rfl | hz
          · exact ⟨Nat.zero_le _, fun c hc => nomatch (show c ∈ ([] : List Nat) from hc)⟩
          · exact ⟨(hall z hz).2.1, (hall z hz).2.2⟩
        have hw := hall0 _ (List.getElem_mem hlt)
        have hget : ((((Str.empty :: zs) ++ more).map V.str))[st + j]? = some (V.str (Str.empty :: zs)[st + j]) := by
          rw [List.getElem?_map, List.getElem?_append_left hlt, List.getElem?_eq_getElem hlt]
          rfl
        generalize hwd : (Str.empty :: zs)[st + j] = wd at hw hget
        have hat : atI (((Str.empty :: zs) ++ more).map V.str) ((st : Int) + (j : Nat)) = some (V.str wd) := by
          have : (st : Int) + (j : Nat) = ((st + j : Nat) : Int) := by omega
          rw [this]
          exact atI_nat hget
        refine ⟨_, rfl, .inl ⟨rfl, _, SqL.of hf2⟩, _, rfl, a, rfl, ⟨_, SqT.of (e2 _ _ ha)⟩, fun D hD => ?_⟩
        refine lc_map (feeds_tup K a (cs.map sV)) (fun v => match v with | .str z => .str (wd ++ z) | _ => .non) hD (fun H3 e3 => SqT.of ((e2.trans e3) _ _ ha)) (by rw [List.length_map]; omega) ?_ ?_
        · intro v hv H3 Q3 e3 k
          obtain ⟨c, hc, rfl⟩ := List.mem_map.mp hv
          have := wd.length
          exact ⟨_, rfl, _, rfl, F, _, _, _, rfl, rfl, SqL.of (e3 _ _ hf2), hat, _, rfl, _, _, rfl, rfl, sizeL (by have := hw.1; rw [len_sgn]; omega), k H3 (Ex.refl _)⟩
        · intro H3 e3 hD3
          have hf3 := e3 _ _ hf2
          have e4 : (cs.map sV).map (fun v => match v with | .str z => V.str (wd ++ z) | _ => .non) = (cs.map fun c => wd ++ sgn c).map V.str := by
            rw [List.map_map, List.map_map]
            rfl
          rw [e4] at hD3
          refine ⟨F, D, _, _, rfl, rfl, hf3, hD3, ?_, more ++ cs.map (fun c => wd ++ sgn c), _, _, rfl, Ex.mut (e2.trans e3) hF, ?_, ?_, ?_⟩
          · rw [List.length_map, List.length_map, List.length_append, List.length_cons, List.length_map]
            have : j * 15 ≤ 70000 * 15 := by omega
            have := @sizeL 1000000 (Nat.le_refl _)
            have h5 : j ≤ 4096 := by omega
            omega
          · rw [upd_same, ← List.append_assoc, ← List.map_append]
          · rw [List.length_append, List.length_map]; omega
          · intro z hz
            rcases List.mem_append.mp hz with hz | hz
            · exact hmall z hz
            · obtain ⟨c, hc, rfl⟩ := List.mem_map.mp hz
              rw [len_app, len_sgn]
              refine ⟨by omega, by have := hw.1; omega, fun c' hc' => ?_⟩
              rw [tl_app, tl_sgn] at hc'
              rcases List.mem_append.mp hc' with h | h
              · exact hw.2 c' h
              · rw [List.mem_singleton] at h; rw [h]; exact hc
      · rintro σ H2 ⟨more, v6, v7, rfl, e2, hf2, hm, hmall⟩
        rw [List.length_map, List.length_range] at hm
        refine ⟨_, rfl, zs ++ more, zs.length + 1, _, _, _, _, rfl, e2, by rw [List.cons_append] at hf2; exact hf2, ?_, ?_, ?_⟩
        · rw [List.length_append]
          have : (((zs.length + 1 : Nat) : Int) - (st : Int)).toNat ≤ 16 ^ i := by omega
          omega
        · rw [List.length_append]; omega
        · intro z hz
          rcases List.mem_append.mp hz with hz | hz
          · have := hall z hz
            exact ⟨this.1, by omega, this.2.2⟩
          · exact hmall z hz
    · rintro σ H1 ⟨zs, st, v4, v5, v6, v7, rfl, e1, hf, hz, hst, hall⟩
      rw [List.length_map, List.length_range] at hz hall
      have hn' : ((n : Int)).toNat = n := by omega
      rw [hn'] at hz hall
      have hpow : 16 ^ n ≤ 16 ^ 4 := Nat.pow_le_pow_right (by decide) hn
      have h65 : (16 : Nat) ^ 4 = 65536 := by decide
      exact ⟨_, rfl, q F zs _ hF e1 hf (by omega) hall⟩
end
end My
namespace My
open PySem PySem.Spec PyProof.Rows L2 Lk Evl
theorem atI_of {α : Type} {l : List α} {i : Int} {k : Nat} {x : α} (h : l[k]? = some x) (e : i = (k : Int)) : atI l i = some x := by rw [e]; exact atI_nat h
theorem get_map {α β : Type} {l : List α} {k : Nat} {x : α} (f : α → β) (h : l[k]? = some x) : (l.map f)[k]? = some (f x) := by rw [List.getElem?_map, h]; rfl
section
variable {P : Program} {w : World} {K : PySem.W.Frag} {mg : Str → Option Value} {base : Heap}
/-! ### the law's own table -/
/-- the table behind the pattern q: held[k] says whether q fits the first k signs of t -/
structure Held (q t : List Nat) (hs : List Bool) : Prop where
  len : hs.length = t.length + 1
  at_ : ∀ k, k ≤ t.length → hs[k]? = some (Fm.mt q (t.take k))
theorem held_get {q t : List Nat} {hs : List Bool} (h : Held q t hs) {k : Nat} (hk : k ≤ t.length) {i : Int} (e : i = (k : Int)) : atI (hs.map V.bl) i = some (.bl (Fm.mt q (t.take k))) := atI_of (get_map V.bl (h.at_ k hk)) e
def spLF : Sp := fun vs H Q _ => ∃ p t : Str, vs = [.str p, .str t] ∧ p.length ≤ 1000 ∧ t.length ≤ 1000 ∧ ∀ H', Ex H H' → Q (.bl (Fm.mt (tl p) (tl t))) H'
theorem ok_lfits (T : Tx K mg) : FnOk P w K mg base CX0 1 T.a__law_fits T.d__law_fits ps__law_fits spLF := by
  refine T.F__law_fits.ok sc__law_fits (fun vs H Q E h => ?_) (fun cdv A outer s H vs Q E hr h => ?_)
  · obtain ⟨p, t, rfl, _⟩ := h
    rfl
  · obtain ⟨p, t, rfl, hp, ht, q⟩ := h
    have hl := tl_len t
    have hl2 : t.cps.toList.length = t.length := tl_len t
    have hpl := tl_len p
    refine ⟨_, (pss_cons (ps_set (i := 2) sc__law_fits.nd rfl (Or.inr rfl) (pe_op op_cat (pe_lst (pa_cons pe_bl pa_nil)) (pe_op op_rep (pe_lst (pa_cons pe_bl pa_nil)) (pe_callB call_len_str (by rfl) T.n_len PySem.boot_len (pa_cons (pv 1) pa_nil)))))
  (pss_cons (ps_for PassesOwn.never rfl (pi_str (pv 0)) (pg_name (i := 3) sc__law_fits.nd rfl (Or.inr rfl))
    (pss_one (ps_if (pt_cmpR op_eq (pv 3) pe_str (nomark _)) (pss_one (ps_for PassesOwn.never rfl (pi_range1 (by rfl) T.n_range (pa_cons (pe_callB call_len_str (by rfl) T.n_len PySem.boot_len (pa_cons (pv 1) pa_nil)) pa_nil)) (pg_name (i := 4) sc__law_fits.nd rfl (Or.inl rfl))
    (pss_one (ps_asg (pe_or (pe_ix (ix_listK (K := K)) (pv 2) (pv 4) (fun _ _ => rfl)) (pe_one (pe_ix (ix_listK (K := K)) (pv 2) (pe_op op_add (pv 4) pe_int) (fun _ _ => rfl)))) (pg_sub (pv 2) (pe_op op_add (pv 4) pe_int) set_list))))) (pss_one (ps_set (i := 2) sc__law_fits.nd rfl (Or.inr rfl) (pe_op op_cat (pe_lst (pa_cons pe_bl pa_nil)) (pe_lc (own := [("at", 4)]) (g := gName 4) (tt := tYes) rfl sc__law_fits.nd (pi_range1 (by rfl) T.n_range (pa_cons (pe_callB call_len_str (by rfl) T.n_len PySem.boot_len (pa_cons (pv 1) pa_nil)) pa_nil)) (blkOk_by (N := nm__law_fits) (sc := defScope s__law_fits) (by decide +kernel)) (fun _ _ _ _ _ => (pg_name (i := 4) sc__law_fits.nd rfl (Or.inl rfl))) (fun _ _ _ _ _ => pts_nil) (fun _ _ _ _ _ => (pe_and (pe_ix (ix_listK (K := K)) (pv 2) (pv 4) (fun _ _ => rfl)) (pe_one (pe_cmpR (op_inK (K := K)) (pv 3) (pe_tup (pa_cons pe_str (pa_cons (pe_ix ix_str (pv 1) (pv 4) (fun _ _ => rfl)) pa_nil))) (by rfl))))))))))))
  (pss_one (ps_ret (pe_ix (ix_listK (K := K)) (pv 2) (pe_un un_neg pe_int) (fun _ _ => rfl)))))), ?_⟩
    refine ⟨by show 1 ≤ sizeLine; decide, fun a ha => ⟨by show 1 ≤ sizeLine; decide, fun b hb => ⟨_, rfl, t, rfl, sizeL (by omega), b, _, _, rfl, rfl, upd_same, by omega, by omega, ?_, fun c hc => ?_⟩⟩⟩
    · simp; exact sizeL (by omega)
    have nab : a ≠ b := fun e => by rw [← e, upd_same] at hb; cases hb
    have nac : a ≠ c := fun e => by rw [← e, upd_ne nab, upd_same] at hc; cases hc
    have hrep : (List.replicate (t.length : Int).toNat [V.bl false]).flatten = List.replicate t.length (V.bl false) := by
      simp
    refine ⟨a, c, _, _, rfl, rfl, by rw [upd_ne nac, upd_ne nab]; exact upd_same, upd_same, ?_, fun F hF => ?_⟩
    · rw [hrep]; simp; exact sizeL (by omega)
    have e0 : Ex H (upd (upd (upd H a (.lst [.bl true])) b (.lst [.bl false])) c (.lst (List.replicate (t.length : Int).toNat [V.bl false]).flatten)) := ((Ex.new ha).trans (Ex.new hb)).trans (Ex.new hc)
    have hFn : H F = none := Evl.fresh_back e0 hF
    refine ⟨_, rfl, p, rfl, for_str (fun i σ H1 => ∃ (G : Addr) (v3 v4 : Option V) (hs : List Bool), σ = [some (.str p), some (.str t), some (.ref G), v3, v4] ∧ Ex H H1 ∧ H G = none ∧ H1 G = some (.lst (hs.map V.bl)) ∧ Held ((tl p).take i) (tl t) hs)
      ⟨F, none, none, true :: List.replicate t.length false, rfl, e0.trans (Ex.new hF), hFn, ?_, ⟨by simp [hl], fun k hk => ?_⟩⟩ ?_ ?_⟩
    · rw [upd_same, hrep]; simp
    · cases k with
      | zero => simp [Fm.mt]
      | succ k =>
        have h1 : (tl t).take (k + 1) ≠ [] := by
          intro z
          have := congrArg List.length z
          rw [List.length_take] at this
          have h3 : min (k + 1) (tl t).length = 0 := this
          omega
        have h2 : Fm.mt [] ((tl t).take (k + 1)) = false := by
          cases z : (tl t).take (k + 1) with
          | nil => exact absurd z h1
          | cons x r => simp [Fm.mt]
        rw [List.take_zero, h2, List.getElem?_cons_succ, List.getElem?_replicate, if_pos (by omega)]
    · rintro i c' σ H1 hc' ⟨G, v3, v4, hs, rfl, e1, hGn, hG, HL⟩
      have htake : (tl p).take (i + 1) = (tl p).take i ++ [c'] := by rw [List.take_succ, hc']; rfl
      refine ⟨_, rfl, rfl, _, rfl, ?_⟩
      refine ite2 (fun hs' => ?_) (fun hs' => ?_)
      · have hc42 : c' = 42 := by
          have e2 := V.str.inj (of_decide_eq_true hs')
          rw [show Str.ofString "*" = sgn 42 from star_sgn] at e2
          exact sgn_inj.mp e2
        subst hc42
        -- the places up to j are new
        refine ⟨_, rfl, t, rfl, sizeL (by omega), _, rfl, by omega, by omega, for_of (feeds_range 0 _) (fun j σ H2 => ∃ (v4 : Option V) (hs2 : List Bool), σ = [some (.str p), some (.str t), some (.ref G), some (.str (sgn 42)), v4] ∧ Ex H H2 ∧ H2 G = some (.lst (hs2.map V.bl)) ∧ hs2.length = (tl t).length + 1 ∧
            (∀ k, k ≤ j → k ≤ (tl t).length → hs2[k]? = some (Fm.mt ((tl p).take (i + 1)) ((tl t).take k))) ∧ ∀ k, j < k → k ≤ (tl t).length → hs2[k]? = some (Fm.mt ((tl p).take i) ((tl t).take k)))
          ⟨_, hs, rfl, e1, hG, HL.len, ?_, fun k _ hk => HL.at_ k hk⟩ (fun _ _ _ _ => trivial) ?_ ?_⟩
        · intro k h0 hk
          have : k = 0 := by omega
          subst this
          rw [HL.at_ 0 hk, htake, List.take_zero, Fm.end_star_nil]
        · rintro j x σ H2 hx ⟨v4, hs2, rfl, e2, hG2, hlen, h1, h2⟩
          have hj := lt_get hx
          rw [List.length_map, List.length_range] at hj
          have hj2 : j < (tl t).length := by omega
          have hx' : x = .int (0 + (j : Nat)) := by
            rw [List.getElem?_map, List.getElem?_range hj] at hx
            exact (Option.some.inj hx).symm
          subst hx'
          have g0 := h1 j (Nat.le_refl _) (by omega)
          have g1 := h2 (j + 1) (by omega) (by omega)
          have hsj : (tl t)[j]? = some (tl t)[j] := List.getElem?_eq_getElem hj2
          have step : Fm.mt ((tl p).take (i + 1)) ((tl t).take (j + 1)) = (Fm.mt ((tl p).take i) ((tl t).take (j + 1)) || Fm.mt ((tl p).take (i + 1)) ((tl t).take j)) := by
            have e3 : (tl t).take (j + 1) = (tl t).take j ++ [(tl t)[j]] := by rw [List.take_succ, hsj]; rfl
            rw [e3, htake, Fm.end_star]
          have store : ∀ b : Bool, b = Fm.mt ((tl p).take (i + 1)) ((tl t).take (j + 1)) →
              ∃ (v4 : Option V) (hs3 : List Bool), [some (V.str p), some (V.str t), some (V.ref G), some (V.str (sgn 42)), some (V.int (0 + (j : Nat)))] = [some (.str p), some (.str t), some (.ref G), some (.str (sgn 42)), v4] ∧ Ex H (upd H2 G (.lst ((hs2.map V.bl).set (j + 1) (.bl b)))) ∧ (upd H2 G (.lst ((hs2.map V.bl).set (j + 1) (.bl b)))) G = some (.lst (hs3.map V.bl)) ∧ hs3.length = (tl t).length + 1 ∧
                (∀ k, k ≤ j + 1 → k ≤ (tl t).length → hs3[k]? = some (Fm.mt ((tl p).take (i + 1)) ((tl t).take k))) ∧ ∀ k, j + 1 < k → k ≤ (tl t).length → hs3[k]? = some (Fm.mt ((tl p).take i) ((tl t).take k)) := by
            intro b hb
            refine ⟨_, hs2.set (j + 1) b, rfl, Ex.mut e2 hGn, by rw [upd_same, List.map_set], by rw [List.length_set]; exact hlen, fun k hk1 hk2 => ?_, fun k hk1 hk2 => ?_⟩
            · by_cases hk : k = j + 1
              · subst hk
                rw [List.getElem?_set_self (by omega), hb]
              · rw [List.getElem?_set_ne (by omega)]
                exact h1 k (by omega) hk2
            · rw [List.getElem?_set_ne (by omega)]
              exact h2 k (by omega) hk2
          have ix1 : ixN (hs2.map V.bl).length (0 + (j : Nat) + 1 : Int) = some (j + 1) := by
            unfold ixN
            rw [List.length_map, hlen, if_pos (by omega), if_pos (by omega)]
            congr 1
            omega
          refine ⟨_, rfl, _, rfl, G, _, _, _, rfl, rfl, SqL.of hG2, atI_of (get_map V.bl g0) (by omega), _, rfl, ?_⟩
          refine ite2 (fun hb => ?_) (fun hb => ?_)
          · exact ⟨_, rfl, _, rfl, _, _, rfl, rfl, G, _, _, _, rfl, rfl, hG2, ix1, store true (by rw [step, hb, Bool.or_true])⟩
          · refine ⟨_, rfl, _, rfl, _, _, rfl, rfl, G, _, _, _, rfl, rfl, SqL.of hG2, atI_of (get_map V.bl g1) (by omega), _, rfl, _, rfl, _, _, rfl, rfl, G, _, _, _, rfl, rfl, hG2, ix1, store _ ?_⟩
            rw [Bool.not_eq_true] at hb
            rw [step, hb, Bool.or_false]
        · rintro σ H2 ⟨v4, hs2, rfl, e2, hG2, hlen, h1, h2⟩
          rw [List.length_map, List.length_range] at h1
          exact ⟨G, _, _, hs2, rfl, e2, hGn, hG2, ⟨hlen, fun k hk => h1 k (by omega) hk⟩⟩
      · have hc42 : c' ≠ 42 := fun z => hs' (by rw [decide_eq_true_eq]; show V.str (sgn c') = V.str (Str.ofString "*"); rw [show Str.ofString "*" = sgn 42 from star_sgn, z])
        refine ⟨by show 1 ≤ sizeLine; decide, fun a2 ha2 => ⟨_, rfl, t, rfl, sizeL (by omega), _, rfl, by omega, by omega, fun D hD => ?_⟩⟩
        have ea : Ex H1 (upd H1 a2 (.lst [.bl false])) := Ex.new ha2
        have nDa : a2 ≠ D := fun e => by rw [← e, upd_same] at hD; cases hD
        refine lc_map (feeds_range 0 _) (fun v => match v with | .int k => .bl (Fm.mt ((tl p).take (i + 1)) ((tl t).take (k.toNat + 1))) | _ => .non) hD (fun _ _ => trivial) (by rw [List.length_map, List.length_range]; omega) ?_ ?_
        · intro v hv H3 Q3 e3 k
          obtain ⟨j, hj, rfl⟩ := List.mem_map.mp hv
          rw [List.mem_range] at hj
          have hj2 : j < (tl t).length := by omega
          have hsj : (tl t)[j]? = some (tl t)[j] := List.getElem?_eq_getElem hj2
          have ej : (0 + (j : Nat) : Int).toNat = j := by omega
          have step : Fm.mt ((tl p).take (i + 1)) ((tl t).take (j + 1)) = (decide (c' = 63 ∨ c' = (tl t)[j]) && Fm.mt ((tl p).take i) ((tl t).take j)) := by
            have e3 : (tl t).take (j + 1) = (tl t).take j ++ [(tl t)[j]] := by rw [List.take_succ, hsj]; rfl
            rw [e3, htake, Fm.end_one _ _ _ hc42]
          have k' : ∀ b : Bool, b = (decide (c' = 63 ∨ c' = (tl t)[j]) && Fm.mt ((tl p).take i) ((tl t).take j)) → ∀ H4, Ex H3 H4 → Q3 (.bl b) H4 := fun b hb H4 e4 => by
            have := k H4 e4
            simp only [ej] at this
            rw [step, ← hb] at this
            exact this
          refine ⟨_, rfl, _, rfl, G, _, _, _, rfl, rfl, SqL.of ((ea.trans e3) _ _ hG), held_get HL (k := j) (by omega) (by omega), _, rfl, ?_⟩
          refine ite2 (fun hb => ?_) (fun hb => ?_)
          · refine ⟨_, rfl, _, rfl, _, rfl, t, _, _, rfl, rfl, sizeL (by omega), atI_of hsj (by omega), by show 2 ≤ sizeLine; decide, fun u hu => ⟨u, _, rfl, .inr (SqT.of upd_same), rfl, rfl, ?_⟩⟩
            refine k' _ ?_ _ (Ex.new hu)
            rw [if_neg Bool.false_ne_true, hb, Bool.and_true]
            show inV (.str (sgn c')) [V.str (Str.ofString "?"), V.str (sgn (tl t)[j])] = _
            rw [show Str.ofString "?" = sgn 63 from quest_sgn]
            simp only [inV, List.any_cons, List.any_nil, eqV, beq_sgn, Bool.or_false]
            rw [Bool.eq_iff_iff, Bool.or_eq_true, decide_eq_true_eq, decide_eq_true_eq, decide_eq_true_eq]
            omega
          · rw [Bool.not_eq_true] at hb
            exact k' false (by rw [hb, Bool.and_false]) _ (Ex.refl _)
        · intro H3 e3 hD3
          refine ⟨a2, D, _, _, rfl, rfl, e3 _ _ upd_same, hD3, ?_, fun G2 hG2 => ⟨G2, _, _, false :: ((List.range t.length).map fun k => Fm.mt ((tl p).take (i + 1)) ((tl t).take (k + 1))), rfl, ((e1.trans ea).trans e3).trans (Ex.new hG2), Evl.fresh_back ((e1.trans ea).trans e3) hG2, ?_, ⟨by simp [hl], fun k hk => ?_⟩⟩⟩
          · simp; have := @sizeL 1001 (by omega); omega
          · rw [upd_same]
            simp
          · cases k with
            | zero => rw [List.take_zero, htake, Fm.end_one_nil _ hc42]; rfl
            | succ k =>
              have hk2 : k < t.length := by omega
              simp [hk2]
    · rintro σ H1 ⟨G, v3, v4, hs, rfl, e1, hGn, hG, HL⟩
      rw [List.take_length] at HL
      have hlast : atI (hs.map V.bl) (-1) = some (.bl (Fm.mt (tl p) (tl t))) := by
        have h1 := HL.at_ (tl t).length (Nat.le_refl _)
        rw [List.take_length] at h1
        unfold atI ixN
        rw [if_neg (by omega), List.length_map, HL.len, if_pos (by omega)]
        have e : ((-1 : Int) + (((tl t).length + 1 : Nat) : Int)).toNat = (tl t).length := by omega
        rw [e]
        exact get_map V.bl h1
      exact ⟨_, rfl, _, rfl, G, _, _, _, rfl, rfl, SqL.of hG, hlast, q _ e1⟩
theorem e_dice {d : Addr} {H H' : Hp} (e : Ex H H') (h : Dice H d) : Dice H' d := by obtain ⟨a, b, c, z⟩ := h; exact ⟨a, b, c, e _ _ z⟩
/-! ### patterns that are drawn -/
/-- a text of signs of l, not empty -/
def Word (l : List Nat) (n : Nat) (z : Str) : Prop := 1 ≤ z.length ∧ z.length ≤ n ∧ Over l z
theorem joinL_nil : ∀ l : List (List Nat), TL.joinL [] l = l.flatten
  | [] => rfl
  | [p] => by simp [TL.joinL]
  | p :: q :: r => by
    show p ++ ([] ++ TL.joinL [] (q :: r)) = _
    rw [joinL_nil (q :: r)]
    simp
theorem flat_sgn (ds : List Nat) : (ds.map (TL.tl ∘ sgn)).flatten = ds := by
  induction ds with
  | nil => rfl
  | cons d ds ih =>
    rw [List.map_cons, List.flatten_cons, ih]
    rfl
theorem join_sgns (ds : List Nat) : tl (Txt.join (Str.ofString "") (ds.map sgn)) = ds := by
  rw [TL.join_eq]
  have := TL.tl_join (Str.ofString "") (ds.map sgn)
  rw [show TL.tl (Str.ofString "") = [] from by decide +kernel, joinL_nil, List.map_map] at this
  rw [show tl (Str.join (Str.ofString "") (ds.map sgn)) = TL.tl (Str.join (Str.ofString "") (ds.map sgn)) from rfl, this]
  exact flat_sgn ds
/-- a comprehension whose elements draw -/
theorem lc_draw {I : Hp → Prop} {J : It} {xs : List V} {te : TE} {i : Nat} {σ : L2.St} {d : Addr} {H1 : Hp} {D : Addr} {Qd : Hp → Prop} (F : Feeds I J xs) (S : V → Prop) (hd : Dice H1 d) (hD : H1 D = none) (hI : ∀ H, Roll d H1 H → I H) (hz : xs.length ≤ 1000000)
    (hte : ∀ x ∈ xs, ∀ (H2 : Hp) (Q2 : VK), Roll d H1 H2 → (∀ v H3, S v → Roll d H2 H3 → Q2 v H3) → te ((σ.set i none).set i (some x)) H2 Q2)
    (hq : ∀ H' ys, Roll d H1 H' → H' D = some (.lst ys) → ys.length = xs.length → (∀ v ∈ ys, S v) → Qd H') :
    ∃ W : Nat → Nat → Hp → Prop, (∃ m, W 0 m (upd H1 D (.lst []))) ∧ ∀ j m H, W j m H →
      (J.stop j H ∧ Qd H) ∨ (J.go j H ∧ ∃ Nx : Hp → Prop, (∀ H', Nx H' → ∃ m', m' < m ∧ W (j + 1) m' H') ∧ ∀ x' H', J.yld j H x' H' → gName i x' (wipe σ [i]) H' fun σ2 H2 => wipe σ2 [i] = wipe σ [i] ∧ tYes σ2 H2 fun b H3 =>
        if b = true then te σ2 H3 fun y H4 => ∃ acc, H4 D = some (.lst acc) ∧ acc.length < sizeLine ∧ Nx (upd H4 D (.lst (acc ++ [y]))) else Nx H3) := by
  have hDd : D ≠ d := fun e => by
    obtain ⟨a, b, c, z⟩ := hd
    rw [e, z] at hD; cases hD
  refine lc_of F (fun j H => ∃ ys, Roll d H1 H ∧ H D = some (.lst ys) ∧ ys.length = j ∧ ∀ v ∈ ys, S v) ⟨[], Roll.of_ex hd (Ex.new hD), upd_same, rfl, fun v h => nomatch h⟩ (fun _ H h => by obtain ⟨_, h, _⟩ := h; exact hI H h) ?_ (fun H h => by obtain ⟨ys, a, b, c, e⟩ := h; exact hq H ys a b c e)
  rintro j x H hx ⟨ys, e1, e2, e3, e4⟩
  refine ⟨by simp [wipe], ?_⟩
  refine hte x (mem_get hx) H _ e1 fun v H3 hv e5 => ⟨_, e5.keep _ _ e2 hDd, ?_, ys ++ [v], roll_mut (e1.trans e5) hD hDd, upd_same, by simp [e3], fun u hu => ?_⟩
  · have := lt_get hx
    have := sizeL hz
    omega
  · rcases List.mem_append.mp hu with h | h
    · exact e4 u h
    · rw [List.mem_singleton] at h; rw [h]; exact hv
theorem sgn_list {l : List Nat} : ∀ {ys : List V}, (∀ v ∈ ys, ∃ c ∈ l, v = sV c) → ∃ ds : List Nat, ys = (ds.map sgn).map V.str ∧ ∀ c ∈ ds, c ∈ l
  | [], _ => ⟨[], rfl, fun _ h => nomatch h⟩
  | y :: ys, h => by
    obtain ⟨c, hc, rfl⟩ := h y List.mem_cons_self
    obtain ⟨ds, e, hd⟩ := sgn_list fun v hv => h v (List.mem_cons_of_mem _ hv)
    exact ⟨c :: ds, by rw [e]; rfl, fun u hu => by
      rcases List.mem_cons.mp hu with h | h
      · rw [h]; exact hc
      · exact hd u h⟩
theorem sum_sgn (ds : List Nat) : ((ds.map sgn).map (·.length)).sum = ds.length := by
  induction ds with
  | nil => rfl
  | cons d ds ih => simp only [List.map_cons, List.sum_cons, ih, len_sgn, List.length_cons]; omega
def spPattern : Sp := fun vs H Q _ => ∃ (d a : Addr) (n m : Nat) (cs : List Nat), vs = [.ref d, .ref a, .int n] ∧ Dice H d ∧ SignsAt H a cs m ∧ m ≤ 15 ∧ 0 < n ∧ n ≤ 100 ∧
  ∀ (z : Str) (H' : Hp), Word (cs ++ [42, 63]) n z → Roll d H H' → Q (.str z) H'
theorem ok_pattern (T : Tx K mg) : FnOk P w K mg base CX0 3 T.a__law_pattern T.d__law_pattern ps__law_pattern spPattern := by
  have G__law_roll := ok_roll (P := P) (w := w) (base := base) T
  have G__law_one_of := ok_one (P := P) (w := w) (base := base) T
  refine T.F__law_pattern.ok sc__law_pattern (fun vs H Q E h => ?_) (fun cdv A outer s H vs Q E hr h => ?_)
  · obtain ⟨d, a, n, m, cs, rfl, _⟩ := h
    rfl
  · obtain ⟨d, a, n, m, cs, rfl, hd, ⟨ha, hc1, hc2, hcs⟩, hm, hn0, hn1, q⟩ := h
    have hdn : ∃ o, H d = some o := by obtain ⟨x, y, z, e⟩ := hd; exact ⟨_, e⟩
    obtain ⟨od, hdo⟩ := hdn
    refine ⟨_, (pss_cons (ps_set (i := 3) sc__law_pattern.nd rfl (Or.inr rfl) (pe_op op_cat (pe_callTy (list_ofK (K := K)) (by rfl) T.n_list (by decide +kernel) (pa_cons (pv 1) pa_nil)) (pe_lst (pa_cons pe_str (pa_cons pe_str (pa_cons pe_str pa_nil))))))
  (pss_one (ps_ret (pe_bmK (K := K) PySem.F.plainAttrs_str PySem.F.slot_str_join PySem.F.type_str_join (joinK (K := K)) pe_str (pa_cons (pe_lc (own := [("turn", 4)]) (g := gName 4) (tt := tYes) rfl sc__law_pattern.nd (pi_range1 (by rfl) T.n_range (pa_cons (pe_op op_add pe_int (pe_call G__law_roll (hr.mono (by first | decide | exact Nat.le_refl _)) rfl T.m__law_roll T.k__law_roll T.b__law_roll .nil pass0 (pa_cons (pv 0) (pa_cons (pv 2) pa_nil)))) pa_nil)) (blkOk_by (N := nm__law_pattern) (sc := defScope s__law_pattern) (by decide +kernel)) (fun _ _ _ _ _ => (pg_name (i := 4) sc__law_pattern.nd rfl (Or.inl rfl))) (fun _ _ _ _ _ => pts_nil) (fun _ _ _ _ _ => (pe_call G__law_one_of (hr.mono (by first | decide | exact Nat.le_refl _)) rfl T.m__law_one_of T.k__law_one_of T.b__law_one_of .nil pass0 (pa_cons (pv 0) (pa_cons (pv 3) pa_nil))))) pa_nil))))), ?_⟩
    refine ⟨_, rfl, a, _, rfl, .inr (SqT.of ha), fun L hL => ⟨by show 3 ≤ sizeLine; decide, fun M hM => ⟨L, M, cs.map sV, _, rfl, rfl, ?_, upd_same, ?_, fun N hN => ?_⟩⟩⟩
    · exact (Ex.new hM) _ _ upd_same
    · rw [List.length_map]; have := @sizeL 1000 (by omega); simp; omega
    have eN : Ex H (upd (upd (upd H L (.lst (cs.map sV))) M (.lst [.str "*", .str "*", .str "?"])) N (.lst (cs.map sV ++ [.str "*", .str "*", .str "?"]))) := ((Ex.new hL).trans (Ex.new hM)).trans (Ex.new hN)
    generalize hH1 : (upd (upd (upd H L (.lst (cs.map sV))) M (.lst [.str "*", .str "*", .str "?"])) N (.lst (cs.map sV ++ [.str "*", .str "*", .str "?"]))) = H1 at eN ⊢
    have hN1 : H1 N = some (.lst ((cs ++ [42, 42, 63]).map sV)) := by rw [← hH1, upd_same, List.map_append]; rw [show V.str "*" = sV 42 from congrArg V.str star_sgn, show V.str "?" = sV 63 from congrArg V.str quest_sgn]; rfl
    have hd1 := e_dice eN hd
    have hNd : N ≠ d := fun e => by
      obtain ⟨x, y, z, e2⟩ := hd1
      rw [← e, hN1] at e2
      cases cs with
      | nil => simp at hc1
      | cons c cs => simp at e2
    refine ⟨rfl, _, rfl, _, rfl, d, _, rfl, hd1, by omega, by omega, fun r H2 r0 r1 R => ⟨_, _, rfl, rfl, _, rfl, by omega, by omega, fun D hD => ?_⟩⟩
    have R1 : Roll d H H2 := (Roll.of_ex hd eN).trans R
    have hN2 := R.keep _ _ hN1 hNd
    refine lc_draw (feeds_range 0 _) (fun v => ∃ c ∈ cs ++ [42, 63], v = sV c) R.dice hD (fun _ _ => trivial) (by rw [List.length_map, List.length_range]; omega) ?_ ?_
    · intro x hx H3 Q3 R3 k
      refine ⟨_, rfl, _, rfl, d, N, _, rfl, R3.dice, hNd, .inl (R3.keep _ _ hN2 hNd), by simp, by simp; omega, fun v H4 hv R4 => k v H4 ?_ R4⟩
      obtain ⟨c, hc, rfl⟩ := List.mem_map.mp hv
      refine ⟨c, ?_, rfl⟩
      rcases List.mem_append.mp hc with h | h
      · exact List.mem_append_left _ h
      · refine List.mem_append_right _ ?_
        simp at h
        simp
        omega
    · intro H3 ys R3 hD3 hlen hall
      rw [List.length_map, List.length_range] at hlen
      obtain ⟨ds, e1, hds⟩ := sgn_list hall
      subst e1
      rw [List.length_map, List.length_map] at hlen
      refine ⟨_, D, ds.map sgn, rfl, rfl, .inl (SqL.of hD3), ?_, q _ _ ⟨?_, ?_, ?_⟩ (R1.trans R3)⟩
      · rw [sum_sgn, List.length_map, show (Str.ofString "").length = 0 from by decide +kernel]; omega
      · rw [← tl_len, join_sgns]; omega
      · rw [← tl_len, join_sgns]; omega
      · intro c hc
        rw [join_sgns] at hc
        exact hds c hc
end
end My
namespace My
open PySem PySem.Spec PyProof.Rows L2 Lk Evl
theorem tl_cut (z : Str) (lo hi : Option Int) : tl (cutS z lo hi) = ((tl z).drop (HT.sIx z.length 0 lo)).take (HT.sIx z.length z.length hi - HT.sIx z.length 0 lo) := by
  simp [cutS, tl]
theorem tl_cutFrom (z : Str) (k : Nat) : tl (cutS z (some k) none) = (tl z).drop k := by
  rw [tl_cut, HT.sIx_none, show HT.sIx z.length 0 (some (k : Int)) = min k z.length from HT.sIx_nat z.length 0 k]
  have := tl_len z
  by_cases h : k ≤ z.length
  · rw [Nat.min_eq_left h, List.take_of_length_le]
    rw [List.length_drop]; omega
  · rw [Nat.min_eq_right (by omega), Nat.sub_self, List.take_zero, List.drop_eq_nil_of_le (by omega)]
theorem tl_cutTo (z : Str) (k : Nat) : tl (cutS z none (some k)) = (tl z).take k := by
  rw [tl_cut, HT.sIx_none, show HT.sIx z.length z.length (some (k : Int)) = min k z.length from HT.sIx_nat z.length z.length k, List.drop_zero, Nat.sub_zero]
  have := tl_len z
  by_cases h : k ≤ z.length
  · rw [Nat.min_eq_left h]
  · rw [Nat.min_eq_right (by omega), List.take_of_length_le (by omega), List.take_of_length_le (by omega)]
theorem tl_cut1 (z : Str) : tl (cutS z (some 1) none) = (tl z).drop 1 := tl_cutFrom z 1
theorem len_cut1 (z : Str) : (cutS z (some 1) none).length = z.length - 1 := by rw [← tl_len, tl_cut1, List.length_drop, tl_len]
theorem ne_empty {z : Str} : (V.str z = V.str (Str.ofString "")) ↔ tl z = [] := by
  constructor
  · intro h
    have := V.str.inj h
    rw [this]
    decide +kernel
  · intro h
    congr 1
    exact TL.ext_tl (h.trans (by decide +kernel))
section
variable {P : Program} {w : World} {K : PySem.W.Frag} {mg : Str → Option Value} {base : Heap}
/-! ### by splits -/
def spSplit : Nat → Sp
  | 0 => fun _ _ _ _ => False
  | n + 1 => fun vs H Q _ => ∃ p t : Str, vs = [.str p, .str t] ∧ (tl p).length + (tl t).length ≤ n ∧ n ≤ 1000 ∧ ∀ H', Ex H H' → Q (.bl (Fm.mt (tl p) (tl t))) H'
theorem ok_splits (T : Tx K mg) : ∀ n, FnOk P w K mg base CX0 n T.a__law_by_splits T.d__law_by_splits ps__law_by_splits (spSplit n)
  | 0 => fn_never
  | n + 1 => by
    have G__law_by_splits := ok_splits T n
    refine T.F__law_by_splits.ok sc__law_by_splits (fun vs H Q E h => ?_) (fun cdv A outer s H vs Q E hr h => ?_)
    · obtain ⟨p, t, rfl, _⟩ := h
      rfl
    · obtain ⟨p, t, rfl, hn, h1, q⟩ := h
      have hpl := tl_len p
      have htl := tl_len t
      have call : ∀ (x y : Str) (H1 : Hp) (Q1 : VK) (E1 : XK), Ex H H1 → (tl x).length + (tl y).length + 1 ≤ n → (∀ H', Ex H1 H' → Q1 (.bl (Fm.mt (tl x) (tl y))) H') → spSplit n [.str x, .str y] H1 Q1 E1 := by
        intro x y H1 Q1 E1 e1 hx k
        cases n with
        | zero => omega
        | succ n => exact ⟨x, y, rfl, by omega, by omega, k⟩
      refine ⟨_, (pss_cons (ps_if (pt_cmpR op_eq (pv 0) pe_str (nomark _)) (pss_one (ps_ret (pe_cmpR op_eq (pv 1) pe_str (nomark _)))) pss_nil)
  (pss_cons (ps_if (pt_cmpR op_eq (pe_ix ix_str (pv 0) pe_int (fun _ _ => rfl)) pe_str (nomark _)) (pss_one (ps_ret (pe_or (pe_call G__law_by_splits (hr.mono (by first | decide | exact Nat.le_refl _)) rfl T.m__law_by_splits T.k__law_by_splits T.b__law_by_splits .nil pass0 (pa_cons (pe_slice sl_str (pv 0) (po_some pe_int) po_none) (pa_cons (pv 1) pa_nil))) (pe_one (pe_and (pe_cmpR op_ne (pv 1) pe_str (nomark _)) (pe_one (pe_call G__law_by_splits (hr.mono (by first | decide | exact Nat.le_refl _)) rfl T.m__law_by_splits T.k__law_by_splits T.b__law_by_splits .nil pass0 (pa_cons (pv 0) (pa_cons (pe_slice sl_str (pv 1) (po_some pe_int) po_none) pa_nil))))))))) pss_nil)
  (pss_one (ps_ret (pe_and (pe_cmpR op_ne (pv 1) pe_str (nomark _)) (pe_and (pe_cmpR (op_inK (K := K)) (pe_ix ix_str (pv 0) pe_int (fun _ _ => rfl)) (pe_tup (pa_cons pe_str (pa_cons (pe_ix ix_str (pv 1) pe_int (fun _ _ => rfl)) pa_nil))) (by rfl)) (pe_one (pe_call G__law_by_splits (hr.mono (by first | decide | exact Nat.le_refl _)) rfl T.m__law_by_splits T.k__law_by_splits T.b__law_by_splits .nil pass0 (pa_cons (pe_slice sl_str (pv 0) (po_some pe_int) po_none) (pa_cons (pe_slice sl_str (pv 1) (po_some pe_int) po_none) pa_nil)))))))))), ?_⟩
      refine ⟨_, rfl, rfl, _, rfl, ?_⟩
      refine ite2 (fun hp => ?_) (fun hp => ?_)
      · have hp' : tl p = [] := ne_empty.mp (of_decide_eq_true hp)
        refine ⟨_, rfl, rfl, ?_⟩
        have e : decide (V.str t = V.str (Str.ofString "")) = Fm.mt (tl p) (tl t) := by
          rw [hp', Bool.eq_iff_iff, decide_eq_true_eq, ne_empty]
          simp [Fm.mt]
        rw [e]
        exact q _ (Ex.refl _)
      · have hp' : tl p ≠ [] := fun z => hp (decide_eq_true (ne_empty.mpr z))
        obtain ⟨c, r, hcr⟩ : ∃ c r, tl p = c :: r := by
          cases z : tl p with
          | nil => exact absurd z hp'
          | cons c r => exact ⟨c, r, rfl⟩
        have hat : atI (tl p) 0 = some c := atI_of (k := 0) (by rw [hcr]; rfl) rfl
        have hcut : tl (cutS p (some 1) none) = r := by rw [tl_cut1, hcr]; rfl
        have hlr : (tl p).length = r.length + 1 := by rw [hcr]; rfl
        refine ⟨_, rfl, p, 0, c, rfl, rfl, sizeL (by omega), hat, rfl, _, rfl, ?_⟩
        refine ite2 (fun hs => ?_) (fun hs => ?_)
        · have hc42 : c = 42 := by
            have e2 := V.str.inj (of_decide_eq_true hs)
            rw [show Str.ofString "*" = sgn 42 from star_sgn] at e2
            exact sgn_inj.mp e2
          subst hc42
          refine ⟨_, rfl, _, rfl, p, rfl, sizeL (by omega), _, rfl, call _ _ _ _ _ (Ex.refl _) (by rw [hcut]; omega) fun H1 e1 => ⟨_, rfl, ?_⟩ ⟩
          rw [hcut]
          refine ite2 (fun hb => ?_) (fun hb => ?_)
          · have : Fm.mt (tl p) (tl t) = true := by
              rw [Fm.mt_iff, hcr]
              exact .skip (Fm.mt_iff.mp hb)
            rw [← this]; exact q _ e1
          · rw [Bool.not_eq_true] at hb
            refine ⟨_, rfl, rfl, _, rfl, ?_⟩
            refine ite2 (fun ht => ?_) (fun ht => ?_)
            · have ht' : tl t ≠ [] := fun z => by
                rw [Bool.not_eq_true', decide_eq_false_iff_not] at ht
                exact ht (ne_empty.mpr z)
              obtain ⟨x, u, hxu⟩ : ∃ x u, tl t = x :: u := by
                cases z : tl t with
                | nil => exact absurd z ht'
                | cons x u => exact ⟨x, u, rfl⟩
              have hcut2 : tl (cutS t (some 1) none) = u := by rw [tl_cut1, hxu]; rfl
              have hlu : (tl t).length = u.length + 1 := by rw [hxu]; rfl
              refine ⟨_, rfl, _, rfl, _, rfl, t, rfl, sizeL (by omega), call _ _ _ _ _ e1 (by rw [hcut2]; omega) fun H2 e2 => ?_⟩
              have e : Fm.mt (tl p) (tl (cutS t (some 1) none)) = Fm.mt (tl p) (tl t) := by
                rw [hcut2, hxu, hcr]
                rw [hxu] at hb
                conv => rhs; unfold Fm.mt
                rw [if_pos rfl, hb, Bool.false_or]
              rw [e]
              exact q _ (e1.trans e2)
            · have ht' : tl t = [] := by
                rw [Bool.not_eq_true', decide_eq_false_iff_not, Classical.not_not] at ht
                exact ne_empty.mp ht
              have e : Fm.mt (tl p) (tl t) = false := by
                rw [hcr, ht'] 
                rw [ht'] at hb
                conv => lhs; unfold Fm.mt
                rw [if_pos rfl, hb]
              rw [← e]
              exact q _ e1
        · have hc42 : c ≠ 42 := fun z => hs (by rw [decide_eq_true_eq]; show V.str (sgn c) = V.str (Str.ofString "*"); rw [show Str.ofString "*" = sgn 42 from star_sgn, z])
          refine ⟨_, rfl, rfl, _, rfl, ?_⟩
          refine ite2 (fun ht => ?_) (fun ht => ?_)
          · have ht' : tl t ≠ [] := fun z => by
              rw [Bool.not_eq_true', decide_eq_false_iff_not] at ht
              exact ht (ne_empty.mpr z)
            obtain ⟨x, u, hxu⟩ : ∃ x u, tl t = x :: u := by
              cases z : tl t with
              | nil => exact absurd z ht'
              | cons x u => exact ⟨x, u, rfl⟩
            have hcut2 : tl (cutS t (some 1) none) = u := by rw [tl_cut1, hxu]; rfl
            have hlu : (tl t).length = u.length + 1 := by rw [hxu]; rfl
            have hat2 : atI (tl t) 0 = some x := atI_of (k := 0) (by rw [hxu]; rfl) rfl
            have main : Fm.mt (tl p) (tl t) = (decide (c = 63 ∨ c = x) && Fm.mt r u) := by
              rw [hcr, hxu]
              conv => lhs; unfold Fm.mt
              rw [if_neg hc42]
            refine ⟨_, rfl, p, 0, c, rfl, rfl, sizeL (by omega), hat, _, rfl, t, 0, x, rfl, rfl, sizeL (by omega), hat2, by show 2 ≤ sizeLine; decide, fun o ho => ⟨o, _, rfl, .inr (SqT.of upd_same), rfl, rfl, _, rfl, ?_⟩⟩
            have ei : inV (.str (sgn c)) [V.str (Str.ofString "?"), V.str (sgn x)] = decide (c = 63 ∨ c = x) := by
              rw [show Str.ofString "?" = sgn 63 from quest_sgn]
              simp only [inV, List.any_cons, List.any_nil, eqV, beq_sgn, Bool.or_false]
              rw [Bool.eq_iff_iff, Bool.or_eq_true, decide_eq_true_eq, decide_eq_true_eq, decide_eq_true_eq]
              omega
            rw [if_neg Bool.false_ne_true]
            refine ite2 (fun hi => ?_) (fun hi => ?_)
            · have hi2 := ei.symm.trans hi
              refine ⟨_, rfl, _, rfl, p, rfl, sizeL (by omega), _, rfl, _, rfl, t, rfl, sizeL (by omega), call _ _ _ _ _ (Ex.new ho) (by rw [hcut, hcut2]; omega) fun H2 e2 => ?_⟩
              rw [hcut, hcut2]
              rw [hi2, Bool.true_and] at main
              rw [← main]
              exact q _ ((Ex.new ho).trans e2)
            · have hi2 : decide (c = 63 ∨ c = x) = false := by
                rw [← ei]; exact Bool.not_eq_true _ ▸ hi
              rw [hi2, Bool.false_and] at main
              rw [← main]
              exact q _ (Ex.new ho)
          · have ht' : tl t = [] := by
              rw [Bool.not_eq_true', decide_eq_false_iff_not, Classical.not_not] at ht
              exact ne_empty.mp ht
            have e : Fm.mt (tl p) (tl t) = false := by
              rw [hcr, ht']
              conv => lhs; unfold Fm.mt
              rw [if_neg hc42]
            rw [← e]
            exact q _ (Ex.refl _)
/-! ### what the words are -/
theorem pat_of {l : List Nat} {n : Nat} {z : Str} (h : Word (l ++ [42, 63]) n z) (hl : ∀ c ∈ l, c ∈ sigs) (hn : n ≤ 12) : isPat (.str z) = true := by
  obtain ⟨h1, h2, h3⟩ := h
  simp only [isPat, Bool.and_eq_true, decide_eq_true_eq, List.all_eq_true]
  refine ⟨⟨h1, by omega⟩, fun c hc => ?_⟩
  rcases List.mem_append.mp (h3 c hc) with h | h
  · unfold patC; rw [decide_eq_true (hl c h), Bool.true_or]
  · unfold patC
    rw [decide_eq_true (show c = 42 ∨ c = 63 by simp at h; exact h), Bool.or_true]
theorem path_of {l : List Nat} {n : Nat} {z : Str} (h : Word l n z) (hl : ∀ c ∈ l, c ∈ sigs) (hn : n ≤ 12) : isPath (.str z) = true := by
  obtain ⟨h1, h2, h3⟩ := h
  simp only [isPath, isText, Bool.and_eq_true, decide_eq_true_eq, List.all_eq_true]
  exact ⟨fun c hc => hl c (h3 c hc), h1, by omega⟩
theorem not_bad {p t : V} (hp : isPat p = true) (ht : isPath t = true) (h : isPat p = false ∨ isPath t = false) : False := by
  rcases h with h | h
  · rw [hp] at h; cases h
  · rw [ht] at h; cases h
theorem pat_len {z : Str} (h : isPat (.str z) = true) : 1 ≤ z.length ∧ z.length ≤ 12 := by
  simp only [isPat, Bool.and_eq_true, decide_eq_true_eq] at h
  exact h.1
theorem path_len {z : Str} (h : isPath (.str z) = true) : 1 ≤ z.length ∧ z.length ≤ 12 := by
  simp only [isPath, Bool.and_eq_true, decide_eq_true_eq] at h
  exact h.2
/-! ### short_right -/
def spRight (n : Nat) : Sp := fun vs H Q _ => ∃ (d a : Addr) (cs : List Nat), vs = [.ref d, .ref a] ∧ Dice H d ∧ SignsAt H a cs n ∧ ∀ H', Roll d H H' → Q (.bl true) H'
theorem ok_short (T : Tx K mg) : FnOk P w K mg base CX0 12 T.a__law_short_right T.d__law_short_right ps__law_short_right (spRight 3) := by
  have G__law_pattern := ok_pattern (P := P) (w := w) (base := base) T
  have G__law_texts := ok_texts (P := P) (w := w) (base := base) T
  have G__law_fits := ok_lfits (P := P) (w := w) (base := base) T
  have G__law_by_splits := ok_splits (P := P) (w := w) (base := base) T 11
  have G_fits := ok_fits (P := P) (w := w) (base := base) T
  refine T.F__law_short_right.ok sc__law_short_right (fun vs H Q E h => ?_) (fun cdv A outer s H vs Q E hr h => ?_)
  · obtain ⟨d, a, cs, rfl, _⟩ := h
    rfl
  · obtain ⟨d, a, cs, rfl, hd, ha, q⟩ := h
    have hdn : ∃ o, H d = some o := by obtain ⟨x, y, z, e⟩ := hd; exact ⟨_, e⟩
    obtain ⟨od, hdo⟩ := hdn
    have hda : a ≠ d := fun e => by
      obtain ⟨x, y, z, e2⟩ := hd
      rw [← e, ha.1] at e2; cases e2
    refine ⟨_, (pss_cons (ps_set (i := 2) sc__law_short_right.nd rfl (Or.inl rfl) (pe_call G__law_pattern (hr.mono (by first | decide | exact Nat.le_refl _)) rfl T.m__law_pattern T.k__law_pattern T.b__law_pattern .nil pass0 (pa_cons (pv 0) (pa_cons (pv 1) (pa_cons pe_int pa_nil)))))
  (pss_cons (ps_for PassesOwn.never rfl (pi_listK (K := K) (pe_slice (sl_listK (K := K)) (pe_call G__law_texts (hr.mono (by first | decide | exact Nat.le_refl _)) rfl T.m__law_texts T.k__law_texts T.b__law_texts .nil pass0 (pa_cons (pv 1) (pa_cons pe_int pa_nil))) (po_some pe_int) po_none)) (pg_name (i := 3) sc__law_short_right.nd rfl (Or.inl rfl))
    (pss_cons (ps_set (i := 4) sc__law_short_right.nd rfl (Or.inl rfl) (pe_call G__law_fits (hr.mono (by first | decide | exact Nat.le_refl _)) rfl T.m__law_fits T.k__law_fits T.b__law_fits .nil pass0 (pa_cons (pv 2) (pa_cons (pv 3) pa_nil))))
  (pss_cons (ps_if (PW.pt (pw_or (pt_cmpR op_ne (pv 4) (pe_call G__law_by_splits (hr.mono (by first | decide | exact Nat.le_refl _)) rfl T.m__law_by_splits T.k__law_by_splits T.b__law_by_splits .nil pass0 (pa_cons (pv 2) (pa_cons (pv 3) pa_nil))) (nomark _)) (pw_or1 (pt_cmpR op_ne (pe_callB call_reprS (by rfl) T.n_repr (by decide +kernel) (pa_cons (pe_call G_fits (hr.mono (by first | decide | exact Nat.le_refl _)) rfl T.m_fits T.k_fits T.b_fits .nil passL (pa_cons (pv 2) (pa_cons (pv 3) pa_nil))) pa_nil)) (pe_callB call_reprS (by rfl) T.n_repr (by decide +kernel) (pa_cons (pv 4) pa_nil)) (nomark _))))) (pss_one (ps_ret pe_bl)) pss_nil)
  (pss_one (ps_if (PW.pt (pw_and (pt_cmpR op_notInS pe_str (pv 2) (by rfl)) (pw_and (pt_val (pv 4)) (pw_and1 (pt_cmpR op_ne (pe_callB call_len_str (by rfl) T.n_len PySem.boot_len (pa_cons (pv 3) pa_nil)) (pe_callB call_len_str (by rfl) T.n_len PySem.boot_len (pa_cons (pv 2) pa_nil)) (nomark _)))))) (pss_one (ps_ret pe_bl)) pss_nil)))))
  (pss_one (ps_ret pe_bl)))), ?_⟩
    refine ⟨_, rfl, _, rfl, d, a, 6, 3, cs, rfl, hd, ha, by decide, by decide, by decide, fun pat H1 hw R1 => ?_⟩
    have ha1 := R1.keep _ _ ha.1 hda
    have hpat := pat_of hw ha.2.2.2 (by decide)
    have hpl : pat.length ≤ 6 := hw.2.1
    have hpl2 := tl_len pat
    refine ⟨_, rfl, a, 4, cs, rfl, ha1, by have := ha.2.2.1; omega, by decide, fun p zs H2 hp0 e2 hp hz hall => ⟨1, rfl, p, _, rfl, SqL.of hp, fun b hb => ?_⟩⟩
    have hcut : cutV ((Str.empty :: zs).map V.str) (some 1) none = zs.map V.str := by
      unfold cutV
      rw [show HT.sIx ((Str.empty :: zs).map V.str).length 0 (some (1 : Int)) = min 1 ((Str.empty :: zs).map V.str).length from HT.sIx_nat _ 0 1, HT.sIx_none]
      simp
      exact List.take_of_length_le (by simp)
    rw [hcut]
    refine ⟨b, rfl, ⟨_, SqL.of upd_same⟩, for_of (feeds_list K b (zs.map V.str)) (fun i σ H3 => ∃ v3 v4 : Option V, σ = [some (.ref d), some (.ref a), some (.str pat), v3, v4] ∧ Ex (upd H2 b (.lst (zs.map V.str))) H3) ⟨none, none, rfl, Ex.refl _⟩ (fun i σ H3 h => ?_) ?_ ?_⟩
    · obtain ⟨_, _, _, e3⟩ := h
      exact SqL.of (e3 _ _ upd_same)
    · rintro i x σ H3 hx ⟨v3, v4, rfl, e3⟩
      obtain ⟨z, hz1, rfl⟩ := List.mem_map.mp (mem_get hx)
      have hw2 := hall z hz1
      have hpath := path_of (l := cs) (n := 4) hw2 ha.2.2.2 (by decide)
      have hzl := tl_len z
      have hzl2 : z.length ≤ 4 := hw2.2.1
      refine ⟨_, rfl, _, rfl, pat, z, rfl, by omega, by omega, fun H4 e4 => ?_⟩
      refine ⟨_, rfl, _, rfl, _, rfl, pat, z, rfl, (by show _ ≤ (10 : Nat); omega), (by decide), fun H5 e5 => ⟨rfl, _, rfl, ?_⟩⟩
      refine ite2 (fun h => by simp at h) (fun _ => ?_)
      refine ⟨_, rfl, _, rfl, .str pat, .str z, rfl, Known.str (by omega), fun _ _ => Known.str (by omega), fun _ _ x1 y1 ex ey H6 e6 => ?_, fun h => (not_bad hpat hpath h).elim⟩
      cases ex
      cases ey
      refine .inl ⟨_, rfl, _, rfl, .inl ⟨_, rfl, rfl, _, rfl, ?_⟩⟩
      refine ite2 (fun h => by simp at h) (fun _ => ?_)
      refine ⟨_, rfl, 42, pat, congrArg V.str star_sgn, rfl, _, rfl, ?_⟩
      refine ite2 (fun hns => ?_) (fun hns => ?_)
      · refine ⟨_, rfl, _, rfl, ?_⟩
        refine ite2 (fun hm => ?_) (fun hm => ?_)
        · have hns' : 42 ∉ tl pat := by simpa using hns
          have hl3 := Fm.fit_len (Fm.mt_iff.mp hm) hns'
          refine ⟨_, rfl, z, rfl, sizeL (by omega), _, rfl, pat, rfl, sizeL (by omega), rfl, _, rfl, ?_⟩
          refine ite2 (fun h => ?_) (fun _ => ?_)
          · rw [Bool.not_eq_true', decide_eq_false_iff_not] at h
            exact absurd (by rw [← hzl, ← hpl2, hl3]) h
          · exact ⟨_, _, rfl, ((e3.trans e4).trans e5).trans e6⟩
        · exact ⟨_, _, rfl, ((e3.trans e4).trans e5).trans e6⟩
      · exact ⟨_, _, rfl, ((e3.trans e4).trans e5).trans e6⟩
    · rintro σ H3 ⟨v3, v4, rfl, e3⟩
      exact q _ (((R1.ex e2).ex (Ex.new hb)).ex e3)
end
end My
namespace My
open PySem PySem.Spec PyProof.Rows L2 Lk Evl
theorem over_app {l : List Nat} {x y : Str} (hx : Over l x) (hy : Over l y) : Over l (x ++ y) := fun c hc => by
  rw [tl_app] at hc
  rcases List.mem_append.mp hc with h | h
  · exact hx c h
  · exact hy c h
theorem over_cut {l : List Nat} {x : Str} (lo hi : Option Int) (hx : Over l x) : Over l (cutS x lo hi) := fun c hc => by
  rw [tl_cut] at hc
  exact hx c (List.mem_of_mem_drop (List.mem_of_mem_take hc))
theorem over_sgn {l : List Nat} {c : Nat} (h : c ∈ l) : Over l (sgn c) := fun x hx => by
  rw [tl_sgn, List.mem_singleton] at hx; rw [hx]; exact h
theorem len_cut (x : Str) (lo hi : Option Int) : (cutS x lo hi).length ≤ x.length := by
  rw [← tl_len, tl_cut, ← tl_len x, List.length_take, List.length_drop]; omega
theorem over_mono {l m : List Nat} {x : Str} (h : Over l x) (hs : ∀ c ∈ l, c ∈ m) : Over m x := fun c hc => hs c (h c hc)
theorem cut12 {l : List Nat} {z : Str} (h1 : 1 ≤ z.length) (h : Over l z) : Word l 12 (cutS z none (some 12)) := by
  refine ⟨?_, ?_, over_cut _ _ h⟩
  · rw [← tl_len, show tl (cutS z none (some 12)) = (tl z).take 12 from tl_cutTo z 12, List.length_take, tl_len]; omega
  · rw [← tl_len, show tl (cutS z none (some 12)) = (tl z).take 12 from tl_cutTo z 12, List.length_take, tl_len]; omega
theorem dbl_eq : ∀ l, StrLaws.dbl 42 l = Fm.dbl l
  | [] => rfl
  | c :: l => by
    have := dbl_eq l
    by_cases h : c = 42
    · subst h; simp [StrLaws.dbl, Fm.dbl, this]
    · simp [StrLaws.dbl, Fm.dbl, this, h, Ne.symm h]
theorem tl_dbl (z : Str) : tl (Txt.replace z (Str.ofString "*") (Str.ofString "**")) = Fm.dbl (tl z) := by
  rw [← dbl_eq]
  exact StrLaws.replace_double z 42
theorem repS_quest (n : Nat) : tl (repS (Str.ofString "?") n) = List.replicate n 63 := by
  have : (Str.ofString "?").cps.toList = [63] := by decide +kernel
  simp [tl, repS, this]
theorem dbl_len : ∀ l, (Fm.dbl l).length ≤ 2 * l.length
  | [] => by simp [Fm.dbl]
  | c :: l => by
    have := dbl_len l
    unfold Fm.dbl
    split <;> simp <;> omega
theorem dbl_len' : ∀ l, l.length ≤ (Fm.dbl l).length
  | [] => by simp [Fm.dbl]
  | c :: l => by
    have := dbl_len' l
    unfold Fm.dbl
    split <;> simp <;> omega
theorem dbl_mem {c : Nat} : ∀ {l}, c ∈ Fm.dbl l → c ∈ l
  | [], h => by simp [Fm.dbl] at h
  | x :: l, h => by
    have ih := @dbl_mem c l
    unfold Fm.dbl at h
    split at h
    · rename_i hx
      subst hx
      simp at h
      rcases h with h | h
      · simp [h]
      · exact List.mem_cons_of_mem _ (ih h)
    · simp at h
      rcases h with h | h
      · simp [h]
      · exact List.mem_cons_of_mem _ (ih h)
section
variable {P : Program} {w : World} {K : PySem.W.Frag} {mg : Str → Option Value} {base : Heap}
/-! ### long_right -/
theorem ok_long (T : Tx K mg) : FnOk P w K mg base CX0 12 T.a__law_long_right T.d__law_long_right ps__law_long_right (spRight 3) := by
  have G__law_roll := ok_roll (P := P) (w := w) (base := base) T
  have G__law_one_of := ok_one (P := P) (w := w) (base := base) T
  have G__law_pattern := ok_pattern (P := P) (w := w) (base := base) T
  have G__law_fits := ok_lfits (P := P) (w := w) (base := base) T
  have G_fits := ok_fits (P := P) (w := w) (base := base) T
  refine T.F__law_long_right.ok sc__law_long_right (fun vs H Q E h => ?_) (fun cdv A outer s H vs Q E hr h => ?_)
  · obtain ⟨d, a, cs, rfl, _⟩ := h
    rfl
  · obtain ⟨d, a, cs, rfl, hd, ha, q⟩ := h
    have hdn : ∃ o, H d = some o := by obtain ⟨x, y, z, e⟩ := hd; exact ⟨_, e⟩
    obtain ⟨od, hdo⟩ := hdn
    have hda : a ≠ d := fun e => by
      obtain ⟨x, y, z, e2⟩ := hd
      rw [← e, ha.1] at e2; cases e2
    refine ⟨_, (pss_setT (i := 2) sc__law_long_right.nd rfl (Or.inl rfl) (pes_bm (K := K) PySem.F.plainAttrs_str PySem.F.slot_str_join PySem.F.type_str_join (joinK (K := K)) (pa_cons (pe_lc (own := [("turn", 10)]) (g := gName 10) (tt := tYes) rfl sc__law_long_right.nd (pi_range1 (by rfl) T.n_range (pa_cons (pe_op op_add pe_int (pe_call G__law_roll (hr.mono (by first | decide | exact Nat.le_refl _)) rfl T.m__law_roll T.k__law_roll T.b__law_roll .nil pass0 (pa_cons (pv 0) (pa_cons pe_int pa_nil)))) pa_nil)) (blkOk_by (N := nm__law_long_right) (sc := defScope s__law_long_right) (by decide +kernel)) (fun _ _ _ _ _ => (pg_name (i := 10) sc__law_long_right.nd rfl (Or.inl rfl))) (fun _ _ _ _ _ => pts_nil) (fun _ _ _ _ _ => (pe_call G__law_one_of (hr.mono (by first | decide | exact Nat.le_refl _)) rfl T.m__law_one_of T.k__law_one_of T.b__law_one_of .nil pass0 (pa_cons (pv 0) (pa_cons (pv 1) pa_nil))))) pa_nil))
  (psst_cons (PST.of (ps_set (i := 3) sc__law_long_right.nd rfl (Or.inl rfl) (pe_call G__law_pattern (hr.mono (by first | decide | exact Nat.le_refl _)) rfl T.m__law_pattern T.k__law_pattern T.b__law_pattern .nil pass0 (pa_cons (pv 0) (pa_cons (pv 1) (pa_cons pe_int pa_nil))))))
  (psst_cons (PST.of (ps_set (i := 4) sc__law_long_right.nd rfl (Or.inl rfl) (pe_call G__law_roll (hr.mono (by first | decide | exact Nat.le_refl _)) rfl T.m__law_roll T.k__law_roll T.b__law_roll .nil pass0 (pa_cons (pv 0) (pa_cons (pe_op op_add (pe_callB call_len_str (by rfl) T.n_len PySem.boot_len (pa_cons (pv 2) pa_nil)) pe_int) pa_nil)))))
  (psst_cons (PST.of (ps_set (i := 5) sc__law_long_right.nd rfl (Or.inl rfl) (pe_slice sl_str (pv 2) (po_some (pe_op op_add (pv 4) (pe_call G__law_roll (hr.mono (by first | decide | exact Nat.le_refl _)) rfl T.m__law_roll T.k__law_roll T.b__law_roll .nil pass0 (pa_cons (pv 0) (pa_cons pe_int pa_nil))))) po_none)))
  (psst_cons (PST.of (ps_set (i := 6) sc__law_long_right.nd rfl (Or.inl rfl) (pe_lst (pa_cons (pv 3) (pa_cons (pv 2) (pa_cons (pe_op op_add_str (pe_op op_add_str (pe_slice sl_str (pv 2) po_none (po_some (pv 4))) pe_str) (pv 5)) (pa_cons (pe_op op_add_str (pe_op op_add_str (pe_slice sl_str (pv 2) po_none (po_some (pv 4))) pe_str) (pe_slice sl_str (pv 2) (po_some (pe_op op_add (pv 4) pe_int)) po_none)) (pa_cons (pe_op op_add_str pe_str (pe_slice sl_str (pv 2) (po_some (pv 4)) po_none)) (pa_cons pe_str (pa_cons (pe_op op_add_str (pv 2) pe_str) pa_nil))))))))))
  (psst_cons (pst_forB PassesOwn.never rfl (pi_listK (K := K) (pe_lc (own := [("text", 9)]) (g := gName 9) (tt := tYes) rfl sc__law_long_right.nd (pi_listK (K := K) (pv 6)) (blkOk_by (N := nm__law_long_right) (sc := defScope s__law_long_right) (by decide +kernel)) (fun _ _ _ _ _ => (pg_name (i := 9) sc__law_long_right.nd rfl (Or.inl rfl))) (fun _ _ _ _ _ => pts_nil) (fun _ _ _ _ _ => (pe_slice sl_str (pv 9) po_none (po_some pe_int))))) (pg_name (i := 7) sc__law_long_right.nd rfl (Or.inl rfl))
  (psst_cons (PST.of (ps_if (PW.pt (pw_or (pt_cmpR op_ne (pe_callB call_reprS (by rfl) T.n_repr (by decide +kernel) (pa_cons (pe_call G_fits (hr.mono (by first | decide | exact Nat.le_refl _)) rfl T.m_fits T.k_fits T.b_fits .nil passL (pa_cons (pv 7) (pa_cons (pv 2) pa_nil))) pa_nil)) (pe_callB call_reprS (by rfl) T.n_repr (by decide +kernel) (pa_cons (pe_call G__law_fits (hr.mono (by first | decide | exact Nat.le_refl _)) rfl T.m__law_fits T.k__law_fits T.b__law_fits .nil pass0 (pa_cons (pv 7) (pa_cons (pv 2) pa_nil))) pa_nil)) (nomark _)) (pw_or1 (pt_not (pt_val (pe_call G_fits (hr.mono (by first | decide | exact Nat.le_refl _)) rfl T.m_fits T.k_fits T.b_fits .nil passL (pa_cons pe_str (pa_cons (pv 2) pa_nil)))))))) (pss_one (ps_ret pe_bl)) pss_nil))
  (psst_cons (pst_set (i := 8) sc__law_long_right.nd rfl (Or.inl rfl) (CwR.pet_replC (pv 7)))
  (PSsT.of (pss_one (ps_if (PW.pt (pw_and (pt_cmpR op_le (pe_callB call_len_str (by rfl) T.n_len PySem.boot_len (pa_cons (pv 8) pa_nil)) pe_int (nomark _)) (pw_and1 (pt_cmpR op_ne (pe_call G_fits (hr.mono (by first | decide | exact Nat.le_refl _)) rfl T.m_fits T.k_fits T.b_fits .nil passL (pa_cons (pv 8) (pa_cons (pv 2) pa_nil))) (pe_call G_fits (hr.mono (by first | decide | exact Nat.le_refl _)) rfl T.m_fits T.k_fits T.b_fits .nil passL (pa_cons (pv 7) (pa_cons (pv 2) pa_nil))) (nomark _))))) (pss_one (ps_ret pe_bl)) pss_nil))))))
  (PSsT.of (pss_one (ps_ret (pe_and (pe_call G_fits (hr.mono (by first | decide | exact Nat.le_refl _)) rfl T.m_fits T.k_fits T.b_fits .nil passL (pa_cons (pe_op op_rep_str pe_str (pe_callB call_len_str (by rfl) T.n_len PySem.boot_len (pa_cons (pv 2) pa_nil))) (pa_cons (pv 2) pa_nil))) (pe_one (pe_not (pe_call G_fits (hr.mono (by first | decide | exact Nat.le_refl _)) rfl T.m_fits T.k_fits T.b_fits .nil passL (pa_cons (pe_op op_rep_str pe_str (pe_op op_add (pe_op op_mod (pe_callB call_len_str (by rfl) T.n_len PySem.boot_len (pa_cons (pv 2) pa_nil)) pe_int) pe_int)) (pa_cons (pv 2) pa_nil))))))))))))))), ?_⟩
    refine ⟨rfl, _, rfl, d, _, rfl, hd, by omega, by omega, fun r H1 r0 r1 R1 => ⟨_, _, rfl, rfl, _, rfl, by omega, by omega, fun D hD => ?_⟩⟩
    refine lc_draw (feeds_range 0 _) (fun v => ∃ c ∈ cs, v = sV c) R1.dice hD (fun _ _ => trivial) (by rw [List.length_map, List.length_range]; omega) ?_ ?_
    · intro x hx H3 Q3 R3 k
      refine ⟨_, rfl, _, rfl, d, a, cs.map sV, rfl, R3.dice, hda, .inr (R3.keep _ _ (R1.keep _ _ ha.1 hda) hda), by have := ha.2.1; simp; omega, by have := ha.2.2.1; simp; omega, fun v H4 hv R4 => k v H4 ?_ R4⟩
      obtain ⟨c, hc, rfl⟩ := List.mem_map.mp hv
      exact ⟨c, hc, rfl⟩
    intro H2 ys R2 hD2 hlen hall
    rw [List.length_map, List.length_range] at hlen
    obtain ⟨ds, e1, hds⟩ := sgn_list hall
    subst e1
    rw [List.length_map, List.length_map] at hlen
    refine ⟨_, D, ds.map sgn, rfl, rfl, .inl (SqL.of hD2), ?_, ?_⟩
    · rw [sum_sgn, List.length_map, show (Str.ofString "").length = 0 from by decide +kernel]; omega
    have htp := join_sgns ds
    generalize Txt.join (Str.ofString "") (ds.map sgn) = path at htp ⊢
    have hpl := tl_len path
    have hpl1 : 1 ≤ path.length := by rw [← hpl, htp]; omega
    have hpl2 : path.length ≤ 12 := by rw [← hpl, htp]; omega
    have hov : Over cs path := fun c hc => hds c (by rw [htp] at hc; exact hc)
    have hwp : Word cs 12 path := ⟨hpl1, hpl2, hov⟩
    have hpath := path_of hwp ha.2.2.2 (by decide)
    have RR := R1.trans R2
    refine ⟨_, rfl, _, rfl, d, a, 12, 3, cs, rfl, RR.dice, ⟨RR.keep _ _ ha.1 hda, ha.2⟩, by decide, by decide, by decide, fun pat H3 hw R3 => ?_⟩
    have RR2 := RR.trans R3
    have hpat := pat_of hw ha.2.2.2 (by decide)
    have hl1 := hw.1
    have hl2 := hw.2.1
    refine ⟨_, rfl, _, rfl, path, rfl, sizeL (by omega), _, _, rfl, rfl, d, _, rfl, R3.dice, by omega, by omega, fun at' H4 a0 a1 R4 => ?_⟩
    have RR3 := RR2.trans R4
    refine ⟨_, rfl, _, rfl, _, rfl, d, _, rfl, R4.dice, by omega, by omega, fun r3 H5 b0 b1 R5 => ⟨_, _, rfl, rfl, _, rfl, path, rfl, sizeL (by omega), ?_⟩⟩
    have RR4 := RR3.trans R5
    have szc : ∀ lo hi, (cutS path lo hi).length ≤ 12 := fun lo hi => Nat.le_trans (len_cut path lo hi) hpl2
    have ls1 : (Str.ofString "*").length = 1 := by decide +kernel
    have ls2 : (Str.ofString "?").length = 1 := by decide +kernel
    refine ⟨_, rfl, _, rfl, _, rfl, _, rfl, _, rfl, path, rfl, sizeL (by omega), _, _, rfl, rfl, sizeL (by have := szc none (some at'); omega), _, rfl, _, _, rfl, rfl, sizeL ?_, ?_⟩
    · rw [len_app, ls1]; have := szc none (some at'); have := szc (some (at' + r3)) none; omega
    refine ⟨_, rfl, _, rfl, _, rfl, path, rfl, sizeL (by omega), _, _, rfl, rfl, sizeL (by have := szc none (some at'); omega), _, rfl, _, rfl, _, _, rfl, rfl, _, rfl, path, rfl, sizeL (by omega), _, _, rfl, rfl, sizeL ?_, ?_⟩
    · rw [len_app, ls2]; have := szc none (some at'); have := szc (some (at' + 1)) none; omega
    refine ⟨_, rfl, _, rfl, _, rfl, path, rfl, sizeL (by omega), _, _, rfl, rfl, sizeL (by have := szc (some at') none; omega), ?_⟩
    refine ⟨_, rfl, _, _, rfl, rfl, sizeL (by omega), by show 7 ≤ sizeLine; decide, fun N hN => ?_⟩
    -- the seven texts
    have star : 42 ∈ cs ++ [42, 63] := by simp
    have quest : 63 ∈ cs ++ [42, 63] := by simp
    have hovP : Over (cs ++ [42, 63]) path := over_mono hov fun c hc => List.mem_append_left _ hc
    have hst : Over (cs ++ [42, 63]) (Str.ofString "*") := by rw [show Str.ofString "*" = sgn 42 from star_sgn]; exact over_sgn star
    have hqu : Over (cs ++ [42, 63]) (Str.ofString "?") := by rw [show Str.ofString "?" = sgn 63 from quest_sgn]; exact over_sgn quest
    obtain ⟨zs, hzs, hz7, hall7⟩ : ∃ zs : List Str, [V.str pat, V.str path, V.str (cutS path none (some at') ++ Str.ofString "*" ++ cutS path (some (at' + r3)) none), V.str (cutS path none (some at') ++ Str.ofString "?" ++ cutS path (some (at' + 1)) none), V.str (Str.ofString "*" ++ cutS path (some at') none), V.str (Str.ofString "*"), V.str (path ++ Str.ofString "*")] = zs.map V.str ∧ zs.length = 7 ∧ ∀ z ∈ zs, 1 ≤ z.length ∧ Over (cs ++ [42, 63]) z ∧ z.length ≤ 100 := by
      have c1 := szc none (some at')
      have c2 := szc (some (at' + r3)) none
      have c3 := szc (some (at' + 1)) none
      have c4 := szc (some at') none
      refine ⟨[_, _, _, _, _, _, _], rfl, rfl, fun z hz => ?_⟩
      simp only [List.mem_cons, List.not_mem_nil, or_false] at hz
      rcases hz with rfl | rfl | rfl | rfl | rfl | rfl | rfl
      · exact ⟨hl1, hw.2.2, by omega⟩
      · exact ⟨hpl1, hovP, by omega⟩
      · exact ⟨by rw [len_app, len_app]; omega, over_app (over_app (over_cut _ _ hovP) hst) (over_cut _ _ hovP), by rw [len_app, len_app]; omega⟩
      · exact ⟨by rw [len_app, len_app]; omega, over_app (over_app (over_cut _ _ hovP) hqu) (over_cut _ _ hovP), by rw [len_app, len_app]; omega⟩
      · exact ⟨by rw [len_app]; omega, over_app hst (over_cut _ _ hovP), by rw [len_app]; omega⟩
      · exact ⟨by omega, hst, by omega⟩
      · exact ⟨by rw [len_app]; omega, over_app hovP hst, by rw [len_app]; omega⟩
    have eN := Ex.new (o := .lst (zs.map V.str)) hN
    have hN6 : (upd H5 N (.lst (zs.map V.str))) N = some (.lst (zs.map V.str)) := upd_same
    rw [hzs]
    generalize upd H5 N (.lst (zs.map V.str)) = H6 at eN hN6 ⊢
    refine ⟨_, rfl, N, rfl, ⟨_, SqL.of hN6⟩, fun D2 hD2 => ?_⟩
    refine lc_map (feeds_list K N (zs.map V.str)) (fun v => match v with | .str z => .str (cutS z none (some 12)) | _ => .non) hD2 (fun H7 e7 => SqL.of (e7 _ _ hN6)) (by rw [List.length_map]; omega) ?_ ?_
    · intro v hv H7 Q7 e7 k
      obtain ⟨z, hz, rfl⟩ := List.mem_map.mp hv
      exact ⟨_, rfl, _, rfl, z, rfl, sizeL (by have := (hall7 z hz).2.2; omega), k H7 (Ex.refl _)⟩
    intro H7 e7 hD7
    rw [show (zs.map V.str).map (fun v => match v with | .str z => V.str (cutS z none (some 12)) | _ => .non) = (zs.map fun z => cutS z none (some 12)).map V.str by rw [List.map_map, List.map_map]; rfl] at hD7
    have RR5 := RR4.ex (eN.trans e7)
    refine ⟨D2, rfl, ⟨_, SqL.of hD7⟩, for_of (feeds_list K D2 ((zs.map fun z => cutS z none (some 12)).map V.str)) (fun i σ H8 => ∃ v7 v8 : Option V, σ = [some (.ref d), some (.ref a), some (.str path), some (.str pat), some (.int at'), some (.str (cutS path (some (at' + r3)) none)), some (.ref N), v7, v8, none, none] ∧ Ex H7 H8) ⟨none, none, rfl, Ex.refl _⟩ (fun i σ H8 h => ?_) ?_ ?_⟩
    · obtain ⟨_, _, _, e8⟩ := h
      exact SqL.of (e8 _ _ hD7)
    · rintro i x σ H8 hx ⟨v7, v8, rfl, e8⟩
      obtain ⟨z', hz', rfl⟩ := List.mem_map.mp (mem_get hx)
      obtain ⟨z0, hz0, rfl⟩ := List.mem_map.mp hz'
      have hw12 := cut12 (hall7 z0 hz0).1 (hall7 z0 hz0).2.1
      generalize cutS z0 none (some 12) = one at hw12 ⊢
      have hone := pat_of hw12 ha.2.2.2 (by decide)
      have hol := pat_len hone
      have hstarP : isPat (.str (Str.ofString "*")) = true := by decide +kernel
      refine ⟨_, rfl, _, rfl, .str one, .str path, rfl, Known.str (by omega), fun _ _ => Known.str (by omega), fun _ _ x1 y1 ex ey H9 e9 => ?_, fun h => (not_bad hone hpath h).elim⟩
      cases ex
      cases ey
      refine .inl ⟨_, rfl, _, rfl, _, rfl, one, path, rfl, by omega, by omega, fun H10 e10 => .inl ⟨_, rfl, rfl, _, rfl, ?_⟩⟩
      refine ite2 (fun h => by simp at h) (fun _ => ?_)
      refine ⟨_, rfl, .str (Str.ofString "*"), .str path, rfl, Known.str (by omega), fun _ _ => Known.str (by omega), fun _ _ x1 y1 ex ey H11 e11 => ?_, fun h => (not_bad hstarP hpath h).elim⟩
      cases ex
      cases ey
      refine ⟨_, rfl, ?_⟩
      have hm1 : Fm.mt (tl (Str.ofString "*")) (tl path) = true := by
        rw [show tl (Str.ofString "*") = [42] by decide +kernel]
        exact Fm.mt_star _
      rw [hm1]
      refine ite2 (fun h => by simp at h) (fun _ => ?_)
      refine ⟨_, rfl, one, rfl, by rw [show (Str.ofString "**").length = 2 by decide +kernel]; omega, ?_⟩
      have hwd := tl_dbl one
      generalize Txt.replace one (Str.ofString "*") (Str.ofString "**") = wider at hwd ⊢
      have hwl := tl_len wider
      have hwo := tl_len one
      have hwl2 : wider.length ≤ 2 * one.length := by rw [← hwl, hwd, ← hwo]; exact dbl_len _
      refine ⟨_, rfl, wider, rfl, sizeL (by omega), _, _, rfl, rfl, _, rfl, ?_⟩
      have end' : ∃ v7 v8 : Option V, [some (V.ref d), some (.ref a), some (.str path), some (.str pat), some (.int at'), some (.str (cutS path (some (at' + r3)) none)), some (.ref N), some (.str one), some (.str wider), none, none] = [some (.ref d), some (.ref a), some (.str path), some (.str pat), some (.int at'), some (.str (cutS path (some (at' + r3)) none)), some (.ref N), v7, v8, none, none] ∧ Ex H7 H11 := ⟨_, _, rfl, ((e8.trans e9).trans e10).trans e11⟩
      refine ite2 (fun hle => ?_) (fun hle => ?_)
      · have hwp2 : isPat (.str wider) = true := by
          rw [decide_eq_true_eq] at hle
          simp only [isPat, Bool.and_eq_true, decide_eq_true_eq, List.all_eq_true] at hone ⊢
          refine ⟨⟨?_, by omega⟩, fun c hc => hone.2 c (dbl_mem (by rw [← hwd]; exact hc))⟩
          rw [← hwl, hwd]
          have := dbl_len' (tl one)
          omega
        refine ⟨_, rfl, _, rfl, .str wider, .str path, rfl, Known.str (by omega), fun _ _ => Known.str (by omega), fun _ _ x1 y1 ex ey H12 e12 => ?_, fun h => (not_bad hwp2 hpath h).elim⟩
        cases ex
        cases ey
        refine ⟨_, rfl, _, rfl, .str one, .str path, rfl, Known.str (by omega), fun _ _ => Known.str (by omega), fun _ _ x1 y1 ex ey H13 e13 => ?_, fun h => (not_bad hone hpath h).elim⟩
        cases ex
        cases ey
        refine ⟨rfl, _, rfl, ?_⟩
        rw [hwd, Fm.mt_dbl]
        refine ite2 (fun h => by simp at h) (fun _ => ?_)
        exact ⟨_, _, rfl, ((((e8.trans e9).trans e10).trans e11).trans e12).trans e13⟩
      · exact end'
    · rintro σ H8 ⟨v7, v8, rfl, e8⟩
      have mkq : ∀ n : Nat, 1 ≤ n → n ≤ 12 → isPat (.str (repS (Str.ofString "?") n)) = true ∧ tl (repS (Str.ofString "?") n) = List.replicate n 63 := by
        intro n n1 n2
        have e := repS_quest n
        refine ⟨?_, e⟩
        have el := tl_len (repS (Str.ofString "?") n)
        rw [e, List.length_replicate] at el
        simp only [isPat, Bool.and_eq_true, decide_eq_true_eq, List.all_eq_true]
        refine ⟨⟨by omega, by omega⟩, fun c hc => ?_⟩
        have hc' : c ∈ List.replicate n 63 := by rw [← e]; exact hc
        rw [List.eq_of_mem_replicate hc']
        decide
      obtain ⟨p1, t1⟩ := mkq path.length hpl1 hpl2
      obtain ⟨p2, t2⟩ := mkq (path.length % 12 + 1) (by omega) (by omega)
      have el1 := pat_len p1
      have el2 := pat_len p2
      have m1 : Fm.mt (tl (repS (Str.ofString "?") path.length)) (tl path) = true := by rw [t1, ← hpl]; exact Fm.mt_quests _
      have m2 : Fm.mt (tl (repS (Str.ofString "?") (path.length % 12 + 1))) (tl path) = false := by
        rw [t2]
        refine Fm.mt_len (fun h => ?_) ?_
        · have := List.eq_of_mem_replicate h
          omega
        · rw [List.length_replicate, hpl]; omega
      refine ⟨_, rfl, path, rfl, sizeL (by omega), _, path.length, rfl, rfl, by rw [ls2]; omega, by omega, _, rfl, .str (repS (Str.ofString "?") path.length), .str path, rfl, Known.str (by omega), fun _ _ => Known.str (by omega), fun _ _ x1 y1 ex ey H9 e9 => ?_, fun h => (not_bad p1 hpath h).elim⟩
      cases ex
      cases ey
      rw [m1]
      refine ⟨true, rfl, ?_⟩
      rw [if_pos rfl]
      refine ⟨_, rfl, path, rfl, sizeL (by omega), _, _, rfl, rfl, (show (0 : Int) < 12 by decide), _, _, rfl, rfl, _, path.length % 12 + 1, rfl, congrArg V.int (by omega), by rw [ls2]; omega, by omega, _, rfl, .str (repS (Str.ofString "?") (path.length % 12 + 1)), .str path, rfl, Known.str (by omega), fun _ _ => Known.str (by omega), fun _ _ x1 y1 ex ey H10 e10 => ?_, fun h => (not_bad p2 hpath h).elim⟩
      cases ex
      cases ey
      rw [m2]
      exact ⟨false, rfl, q _ (RR5.ex ((e8.trans e9).trans e10))⟩
end
end My
namespace My
open PySem PySem.Spec PyProof.Rows L2 Lk Evl LamX
theorem dice_ne {H : Hp} {d b : Addr} {o : HO} (h : Dice H d) (e : H b = some o) (n : ∀ xs, o ≠ .lst xs) : b ≠ d := fun z => by
  obtain ⟨x, y, u, e2⟩ := h
  rw [z, e2] at e
  exact n _ (Option.some.inj e).symm
theorem tabs_roll {T : List (Addr × Str)} {d : Addr} {H H' : Hp} (R : Roll d H H') (hd : Dice H d) (t : Tabs T H) : Tabs T H' := fun p hp => by
  obtain ⟨ps, h1, h2, h3⟩ := t p hp
  refine ⟨ps, R.keep _ _ h1 (dice_ne hd h1 fun xs z => by cases z), h2, fun pos cv hc => ?_⟩
  obtain ⟨c, e1, e2⟩ := h3 pos cv hc
  exact ⟨c, e1, R.keep _ _ e2 (dice_ne hd e2 fun xs z => by unfold CodeO at z; cases z)⟩
/-- all but the dice and the tables stays -/
def KpT (d : Addr) (H H' : Hp) : Prop := Dice H' d ∧ ∀ b o, H b = some o → b ≠ d → (∀ ps, o ≠ .tbl ps) → H' b = some o
theorem KpT.roll {d : Addr} {H H' : Hp} (R : Roll d H H') : KpT d H H' := ⟨R.dice, fun b o e n _ => R.keep b o e n⟩
theorem KpT.trans {d : Addr} {H H1 H2 : Hp} (a : KpT d H H1) (b : KpT d H1 H2) : KpT d H H2 := ⟨b.1, fun c o e n t => b.2 c o (a.2 c o e n t) n t⟩
theorem KpT.ext {d : Addr} {H H' : Hp} (hd : Dice H d) (e : ExtN H H') : KpT d H H' := ⟨by obtain ⟨x, y, z, h⟩ := hd; exact ⟨x, y, z, e _ _ h fun ps z => by cases z⟩, fun b o h _ t => e b o h t⟩
theorem KpT.mut {d M : Addr} {H H' : Hp} {o : HO} (k : KpT d H H') (f : ∀ o, H M = some o → (∀ ps, o ≠ .tbl ps) → False) (n : M ≠ d) : KpT d H (upd H' M o) :=
  ⟨by obtain ⟨x, y, z, e⟩ := k.1; exact ⟨x, y, z, by rw [upd_ne n.symm]; exact e⟩, fun b u e nb nt => by
    rw [upd_ne (fun z => f u (by rw [← z]; exact e) nt)]
    exact k.2 b u e nb nt⟩
theorem tabs_mut {T : List (Addr × Str)} {M : Addr} {H : Hp} {xs : List V} {o : HO} (t : Tabs T H) (h : H M = some (.lst xs)) : Tabs T (upd H M o) := fun p hp => by
  obtain ⟨ps, h1, h2, h3⟩ := t p hp
  refine ⟨ps, by rw [upd_ne (fun z => by rw [z, h] at h1; cases h1)]; exact h1, h2, fun pos cv hc => ?_⟩
  obtain ⟨c, e1, e2⟩ := h3 pos cv hc
  exact ⟨c, e1, by rw [upd_ne (fun z => by rw [z, h] at e2; unfold CodeO at e2; cases e2)]; exact e2⟩
/-- a value of no longer text, or a flat container: what isinstance tells of it stays told -/
inductive Thing (H : Hp) : V → Prop
  | non : Thing H .non
  | bl (b : Bool) : Thing H (.bl b)
  | int (i : Int) : Thing H (.int i)
  | str {z : Str} (h : z.length ≤ 1000000) : Thing H (.str z)
  | tup {a : Addr} {xs : List V} (e : H a = some (.tup xs)) : Thing H (.ref a)
  | lst {a : Addr} {xs : List V} (e : H a = some (.lst xs)) : Thing H (.ref a)
  | dk {a : Addr} {xs : List (Key × V)} (e : H a = some (.dK xs)) : Thing H (.ref a)
theorem Thing.known {K : PySem.W.Frag} {H : Hp} {v : V} (h : Thing H v) : Known K H v := by
  cases h with
  | non => exact ⟨⟨_, .base .non, rfl⟩, fun _ e => by cases e⟩
  | bl b => exact ⟨⟨_, .base (.bl b), rfl⟩, fun _ e => by cases e⟩
  | int i => exact ⟨⟨_, .base (.int i), rfl⟩, fun _ e => by cases e⟩
  | str h => exact Known.str h
  | tup e => exact ⟨⟨_, .base (.tup e), rfl⟩, fun _ e => by cases e⟩
  | lst e => exact ⟨⟨_, .base (.lst e), rfl⟩, fun _ e => by cases e⟩
  | dk e => exact ⟨⟨_, .base (.dK e), rfl⟩, fun _ e => by cases e⟩
/-- v is a thing apart from the dice -/
def Apart (d : Addr) (H : Hp) (v : V) : Prop := Thing H v ∧ v ≠ .ref d
theorem Apart.keep {d : Addr} {H H' : Hp} {v : V} (h : Apart d H v) (k : KpT d H H') : Apart d H' v := by
  obtain ⟨h, n⟩ := h
  refine ⟨?_, n⟩
  have go : ∀ {a : Addr} {o : HO}, V.ref a ≠ .ref d → H a = some o → (∀ ps, o ≠ .tbl ps) → H' a = some o := fun n e t => k.2 _ _ e (fun z => n (by rw [z])) t
  cases h with
  | non => exact .non
  | bl b => exact .bl b
  | int i => exact .int i
  | str h => exact .str h
  | tup e => exact .tup (go n e fun _ z => by cases z)
  | lst e => exact .lst (go n e fun _ z => by cases z)
  | dk e => exact .dk (go n e fun _ z => by cases z)
section
variable {P : Program} {w : World} {K : PySem.W.Frag} {mg : Str → Option Value} {base : Heap}
abbrev tabT (Pt : Addr) : List (Addr × Str) := [(Pt, ((Str.ofString "_law_odd_right") ++ (Str.ofString ".<locals>.")) ++ (Str.ofString "<lambda>"))]
def spOdd (TT : List (Addr × Str)) : Sp := fun vs H Q _ => ∃ d a : Addr, vs = [.ref d, .ref a] ∧ Dice H d ∧ Tabs TT H ∧ ∀ H', KpT d H H' → Tabs TT H' → Q (.bl true) H'
theorem ok_odd (T : Tx K mg) {c Pt : Addr} (hc : T.d__law_odd_right.code = .ref c) (TB : TabB base mg c Pt) : FnG P w K mg base CX0 10 T.a__law_odd_right T.d__law_odd_right ps__law_odd_right (spOdd (tabT Pt)) := by
  have G__law_one_of := ok_one (P := P) (w := w) (base := base) T
  have G_is_path := ok_is_path (P := P) (w := w) (base := base) T
  have G_is_path_pattern := ok_is_path_pattern (P := P) (w := w) (base := base) T
  have G_fits := ok_fits (P := P) (w := w) (base := base) T
  refine Fun.okGC T.F__law_odd_right hc sc__law_odd_right (fun vs H Q E h => ?_) (fun A outer s H vs Q E hga hr h => ?_)
  · obtain ⟨d, a, rfl, _⟩ := h
    rfl
  · obtain ⟨d, a, rfl, hd, ht, q⟩ := h
    let TT := tabT Pt
    let lamK := 4
    have hmT : (Pt, ((Str.ofString "_law_odd_right") ++ (Str.ofString ".<locals>.")) ++ (Str.ofString "<lambda>")) ∈ TT := List.mem_singleton.mpr rfl
    have hu : ∀ p ∈ TT, p.1 = Pt → p.2 = ((Str.ofString "_law_odd_right") ++ (Str.ofString ".<locals>.")) ++ (Str.ofString "<lambda>") := fun p hp _ => by rw [List.mem_singleton.mp hp]
    have hq : (cxOf CX0 P w K mg base nm__law_odd_right (Str.ofString "_law_odd_right") (defScope s__law_odd_right) T.a__law_odd_right (Value.ref c) A outer s H E).nox.env.qual = (Str.ofString "_law_odd_right") ++ (Str.ofString ".<locals>.") := rfl
    refine ⟨_, (pss_cons (ps_set (i := 3) sc__law_odd_right.nd rfl (Or.inr rfl) (pe_call G__law_one_of (hr.mono (by first | decide | exact Nat.le_refl _)) rfl T.m__law_one_of T.k__law_one_of T.b__law_one_of .nil pass0 (pa_cons (pv 0) (pa_cons (pe_lst (pa_cons pe_non (pa_cons pe_bl (pa_cons pe_int (pa_cons (pe_op op_powB pe_int pe_int) (pa_cons (pe_tup pa_nil) (pa_cons (pe_lst (pa_cons pe_str pa_nil)) (pa_cons pe_dnewK (pa_cons (pe_tup (pa_cons pe_str pa_nil)) (pa_cons pe_str (pa_cons (pe_op op_rep_str pe_str pe_int) (pa_cons pe_str (pa_cons pe_str (pa_cons pe_str (pa_cons pe_str (pa_cons pe_str pa_nil)))))))))))))))) pa_nil))))
  (pss_cons (ps_set (i := 4) sc__law_odd_right.nd rfl (Or.inr rfl) (pe_call G__law_one_of (hr.mono (by first | decide | exact Nat.le_refl _)) rfl T.m__law_one_of T.k__law_one_of T.b__law_one_of .nil pass0 (pa_cons (pv 0) (pa_cons (pe_lst (pa_cons pe_str (pa_cons pe_str (pa_cons (pe_op op_rep_str pe_str pe_int) (pa_cons pe_str pa_nil))))) pa_nil))))
  (pss_cons (ps_set (i := 5) sc__law_odd_right.nd rfl (Or.inr rfl) (pe_call G__law_one_of (hr.mono (by first | decide | exact Nat.le_refl _)) rfl T.m__law_one_of T.k__law_one_of T.b__law_one_of .nil pass0 (pa_cons (pv 0) (pa_cons (pe_lst (pa_cons pe_str (pa_cons (pe_op op_rep_str pe_str pe_int) (pa_cons pe_str (pa_cons pe_str pa_nil))))) pa_nil))))
  (pss_cons (ps_set (i := 2) sc__law_odd_right.nd rfl (Or.inl rfl) (pe_lst (pa_cons (pe_call G_is_path (hr.mono (by first | decide | exact Nat.le_refl _)) rfl T.m_is_path T.k_is_path T.b_is_path .nil pass0 (pa_cons (pv 3) pa_nil)) (pa_cons (pe_call G_is_path_pattern (hr.mono (by first | decide | exact Nat.le_refl _)) rfl T.m_is_path_pattern T.k_is_path_pattern T.b_is_path_pattern .nil pass0 (pa_cons (pv 3) pa_nil)) (pa_cons (pe_call G_is_path (hr.mono (by first | decide | exact Nat.le_refl _)) rfl T.m_is_path T.k_is_path T.b_is_path .nil pass0 (pa_cons pe_str pa_nil)) (pa_cons (pe_call G_is_path (hr.mono (by first | decide | exact Nat.le_refl _)) rfl T.m_is_path T.k_is_path T.b_is_path .nil pass0 (pa_cons pe_str pa_nil)) (pa_cons (pe_call G_is_path_pattern (hr.mono (by first | decide | exact Nat.le_refl _)) rfl T.m_is_path_pattern T.k_is_path_pattern T.b_is_path_pattern .nil pass0 (pa_cons (pe_op op_rep_str pe_str pe_int) pa_nil)) pa_nil)))))))
  (pss_cons (ps_set (i := 2) sc__law_odd_right.nd rfl (Or.inl rfl) (pe_op op_cat (pv 2) (pe_lst (pa_cons (pe_call G_is_path (hr.mono (by first | decide | exact Nat.le_refl _)) rfl T.m_is_path T.k_is_path T.b_is_path .nil pass0 (pa_cons (pv 4) pa_nil)) (pa_cons (pe_call G_is_path_pattern (hr.mono (by first | decide | exact Nat.le_refl _)) rfl T.m_is_path_pattern T.k_is_path_pattern T.b_is_path_pattern .nil pass0 (pa_cons (pv 5) pa_nil)) (pa_cons (pe_call G_is_path_pattern (hr.mono (by first | decide | exact Nat.le_refl _)) rfl T.m_is_path_pattern T.k_is_path_pattern T.b_is_path_pattern .nil pass0 (pa_cons (pv 4) pa_nil)) pa_nil))))))
  (pss_cons (ps_if (pt_cmpR op_ne (pe_callB (reprDK (K := K) hr.units hga) (by rfl) T.n_repr (by decide +kernel) (pa_cons (pv 2) pa_nil)) (pe_callB (reprDK (K := K) hr.units hga) (by rfl) T.n_repr (by decide +kernel) (pa_cons (pe_op op_cat (pe_op op_rep (pe_lst (pa_cons pe_bl pa_nil)) pe_int) (pe_op op_rep (pe_lst (pa_cons pe_bl pa_nil)) pe_int)) pa_nil)) (nomark _)) (pss_one (ps_ret pe_bl)) pss_nil)
  (pss_cons (ps_set (i := 2) sc__law_odd_right.nd rfl (Or.inl rfl) (pe_lst (pa_cons (pe_lamF (T := TT) (k := lamK) T.F__law_word_of rfl T.m__law_word_of T.b__law_word_of sc__law_word_of rfl (Or.inl rfl) hq (fun cdv => word_gives rfl T.m_InvalidText rfl T.m_DressError (h0 := fun _ => rfl)) TB rfl hmT hu (hr.mono (by first | decide | exact Nat.le_refl _)) (lamS_by (sc := defScope s__law_odd_right) (by decide +kernel)) rfl (fun _ _ _ _ _ => rfl) (fun A' outer' s' H' E' f' c' hr' => (pe_call G_fits (hr'.mono (by first | decide | exact Nat.le_refl _)) rfl T.m_fits T.k_fits T.b_fits .nil passLam (pa_cons (pv 3) (pa_cons (pv 4) pa_nil))))) pa_nil)))
  (pss_cons (ps_expr (pe_bmK (K := K) PySem.F.plainAttrs_list PySem.F.slot_list_append PySem.F.type_list_append mt_append (pv 2) (pa_cons (pe_lamF (T := TT) (k := lamK) T.F__law_word_of rfl T.m__law_word_of T.b__law_word_of sc__law_word_of rfl (Or.inl rfl) hq (fun cdv => word_gives rfl T.m_InvalidText rfl T.m_DressError (h0 := fun _ => rfl)) TB rfl hmT hu (hr.mono (by first | decide | exact Nat.le_refl _)) (lamS_by (sc := defScope s__law_odd_right) (by decide +kernel)) rfl (fun _ _ _ _ _ => rfl) (fun A' outer' s' H' E' f' c' hr' => (pe_call G_fits (hr'.mono (by first | decide | exact Nat.le_refl _)) rfl T.m_fits T.k_fits T.b_fits .nil passLam (pa_cons (pv 5) (pa_cons (pv 3) pa_nil))))) pa_nil)))
  (pss_cons (ps_expr (pe_bmK (K := K) PySem.F.plainAttrs_list PySem.F.slot_list_append PySem.F.type_list_append mt_append (pv 2) (pa_cons (pe_lamF (T := TT) (k := lamK) T.F__law_word_of rfl T.m__law_word_of T.b__law_word_of sc__law_word_of rfl (Or.inl rfl) hq (fun cdv => word_gives rfl T.m_InvalidText rfl T.m_DressError (h0 := fun _ => rfl)) TB rfl hmT hu (hr.mono (by first | decide | exact Nat.le_refl _)) (lamS_by (sc := defScope s__law_odd_right) (by decide +kernel)) rfl (fun _ _ _ _ _ => rfl) (fun A' outer' s' H' E' f' c' hr' => (pe_call G_fits (hr'.mono (by first | decide | exact Nat.le_refl _)) rfl T.m_fits T.k_fits T.b_fits .nil passLam (pa_cons (pv 3) (pa_cons (pv 3) pa_nil))))) pa_nil)))
  (pss_cons (ps_expr (pe_bmK (K := K) PySem.F.plainAttrs_list PySem.F.slot_list_append PySem.F.type_list_append mt_append (pv 2) (pa_cons (pe_lamF (T := TT) (k := lamK) T.F__law_word_of rfl T.m__law_word_of T.b__law_word_of sc__law_word_of rfl (Or.inl rfl) hq (fun cdv => word_gives rfl T.m_InvalidText rfl T.m_DressError (h0 := fun _ => rfl)) TB rfl hmT hu (hr.mono (by first | decide | exact Nat.le_refl _)) (lamS_by (sc := defScope s__law_odd_right) (by decide +kernel)) rfl (fun _ _ _ _ _ => rfl) (fun A' outer' s' H' E' f' c' hr' => (pe_call G_fits (hr'.mono (by first | decide | exact Nat.le_refl _)) rfl T.m_fits T.k_fits T.b_fits .nil passLam (pa_cons (pv 4) (pa_cons (pe_op op_add_str (pe_slice sl_str (pv 5) po_none (po_some pe_int)) pe_str) pa_nil))))) pa_nil)))
  (pss_one (ps_ret (pe_cmpR (eqDK (K := K) hr.units) (pv 2) (pe_op op_rep (pe_lst (pa_cons pe_str pa_nil)) pe_int) (nomark _)))))))))))))), ?_⟩
    -- odd
    have hdn : ∃ o, H d = some o := by obtain ⟨x, y, z, e⟩ := hd; exact ⟨_, e⟩
    obtain ⟨od, hdo⟩ := hdn
    refine ⟨_, rfl, _, _, rfl, rfl, ⟨by decide, by decide +kernel⟩, by show 0 ≤ sizeLine; decide, fun a0 h0 => ⟨by show 1 ≤ sizeLine; decide, fun a1 h1 a2 h2 => ⟨by show 1 ≤ sizeLine; decide, fun a3 h3 => ⟨_, 13, rfl, rfl, by decide +kernel, by decide, by show 15 ≤ sizeLine; decide, fun L hL => ?_⟩⟩⟩⟩
    have x0 := Ex.new (o := .tup []) h0
    have x1 := Ex.new (o := .lst [.str "a"]) h1
    have x2 := Ex.new (o := .dK []) h2
    have x3 := Ex.new (o := .tup [.str "a"]) h3
    have y0 : (upd H a0 (.tup [])) a0 = some (.tup []) := upd_same
    have y1 : (upd (upd H a0 (.tup [])) a1 (.lst [.str "a"])) a1 = some (.lst [.str "a"]) := upd_same
    have y2 : (upd (upd (upd H a0 (.tup [])) a1 (.lst [.str "a"])) a2 (.dK [])) a2 = some (.dK []) := upd_same
    have y3 : (upd (upd (upd (upd H a0 (.tup [])) a1 (.lst [.str "a"])) a2 (.dK [])) a3 (.tup [.str "a"])) a3 = some (.tup [.str "a"]) := upd_same
    have n0 : a0 ≠ d := fun e => by rw [e, hdo] at h0; cases h0
    have n1 : a1 ≠ d := fun e => by rw [e, x0 _ _ hdo] at h1; cases h1
    have n2 : a2 ≠ d := fun e => by rw [e, x1 _ _ (x0 _ _ hdo)] at h2; cases h2
    have n3 : a3 ≠ d := fun e => by rw [e, x2 _ _ (x1 _ _ (x0 _ _ hdo))] at h3; cases h3
    have e4 := ((x0.trans x1).trans x2).trans x3
    have z0 := x3 _ _ (x2 _ _ (x1 _ _ y0))
    have z1 := x3 _ _ (x2 _ _ y1)
    have z2 := x3 _ _ y2
    clear x0 x1 x2 x3 h0 h1 h2 h3 y0 y1 y2
    generalize upd (upd (upd (upd H a0 (.tup [])) a1 (.lst [.str "a"])) a2 (.dK [])) a3 (.tup [.str "a"]) = H1 at *
    have nL : L ≠ d := fun e => by rw [e, e4 _ _ hdo] at hL; cases hL
    have e5 := e4.trans (Ex.new (o := .lst [V.non, .bl true, .int 0, .int (10 ^ (40 : Nat)), .ref a0, .ref a1, .ref a2, .ref a3, .str (Str.ofString ""), .str (repS (Str.ofString "a") 13), .str (Str.ofString "A"), .str (Str.ofString "a b"), .str (Str.ofString "-"), .str (Str.ofString "a\n"), .str (Str.ofString "z")]) hL)
    refine ⟨d, L, _, rfl, e_dice e5 hd, nL, .inl upd_same, by show 0 < 15; decide, by show 15 ≤ 1000000; decide, fun odd H2 hv R2 => ?_⟩
    have R02 := (Roll.of_ex hd e5).trans R2
    have k2 := KpT.roll R02
    have t2 := tabs_roll R02 hd ht
    have K12 : KpT d H1 H2 := KpT.roll ((Roll.of_ex (e_dice e4 hd) (Ex.new hL)).trans R2)
    have ho : Apart d H1 odd ∧ isPath odd = false ∧ isPat odd = false := by
      simp only [List.mem_cons, List.not_mem_nil, or_false] at hv
      rcases hv with rfl | rfl | rfl | rfl | rfl | rfl | rfl | rfl | rfl | rfl | rfl | rfl | rfl | rfl | rfl
      · exact ⟨⟨.non, fun z => by cases z⟩, rfl, rfl⟩
      · exact ⟨⟨.bl _, fun z => by cases z⟩, rfl, rfl⟩
      · exact ⟨⟨.int _, fun z => by cases z⟩, rfl, rfl⟩
      · exact ⟨⟨.int _, fun z => by cases z⟩, rfl, rfl⟩
      · exact ⟨⟨.tup z0, fun z => n0 (V.ref.inj z)⟩, rfl, rfl⟩
      · exact ⟨⟨.lst z1, fun z => n1 (V.ref.inj z)⟩, rfl, rfl⟩
      · exact ⟨⟨.dk z2, fun z => n2 (V.ref.inj z)⟩, rfl, rfl⟩
      · exact ⟨⟨.tup y3, fun z => n3 (V.ref.inj z)⟩, rfl, rfl⟩
      all_goals exact ⟨⟨.str (by decide +kernel), fun z => by cases z⟩, by decide +kernel, by decide +kernel⟩
    obtain ⟨ho1, hop, hoq⟩ := ho
    have ho2 := ho1.keep K12
    clear hv z0 z1 z2 y3
    -- path
    refine ⟨_, rfl, _, 12, rfl, rfl, by decide +kernel, by decide, by show 4 ≤ sizeLine; decide, fun L2 hL2 => ?_⟩
    have e6 := Ex.new (o := .lst [V.str (Str.ofString "a"), .str (Str.ofString "#"), .str (repS (Str.ofString "a") 12), .str (Str.ofString "_:$")]) hL2
    have nL2 : L2 ≠ d := fun e => by obtain ⟨x, y, z, e2⟩ := R02.dice; rw [e, e2] at hL2; cases hL2
    refine ⟨d, L2, _, rfl, e_dice e6 R02.dice, nL2, .inl upd_same, by decide, by decide, fun path H3 hv R3 => ?_⟩
    have R23 := (Roll.of_ex R02.dice e6).trans R3
    have hpp : ∃ zp : Str, path = .str zp ∧ isPath (.str zp) = true ∧ isPat (.str zp) = true := by
      simp only [List.mem_cons, List.not_mem_nil, or_false] at hv
      rcases hv with rfl | rfl | rfl | rfl
      all_goals exact ⟨_, rfl, by decide +kernel, by decide +kernel⟩
    obtain ⟨zp, rfl, hp1, hp2⟩ := hpp
    clear hv
    -- pattern
    refine ⟨_, rfl, _, 12, rfl, rfl, by decide +kernel, by decide, by show 4 ≤ sizeLine; decide, fun L3 hL3 => ?_⟩
    have R03 := R02.trans R23
    have e7 := Ex.new (o := .lst [V.str (Str.ofString "*"), .str (repS (Str.ofString "?") 12), .str (Str.ofString "a*"), .str (Str.ofString "#")]) hL3
    have nL3 : L3 ≠ d := fun e => by obtain ⟨x, y, z, e2⟩ := R03.dice; rw [e, e2] at hL3; cases hL3
    refine ⟨d, L3, _, rfl, e_dice e7 R03.dice, nL3, .inl upd_same, by decide, by decide, fun pattern H4 hv R4 => ?_⟩
    have R34 := (Roll.of_ex R03.dice e7).trans R4
    have hqq : ∃ zq : Str, pattern = .str zq ∧ isPat (.str zq) = true := by
      simp only [List.mem_cons, List.not_mem_nil, or_false] at hv
      rcases hv with rfl | rfl | rfl | rfl
      all_goals exact ⟨_, rfl, by decide +kernel⟩
    obtain ⟨zq, rfl, hq1⟩ := hqq
    clear hv
    have R04 := R03.trans R34
    have k4 := KpT.roll R04
    have t4 := tabs_roll R04 hd ht
    have ho4 := ho2.keep (KpT.roll (R23.trans R34))
    have lp := pat_len hp2
    have lq := pat_len hq1
    have ks : ∀ {z : Str} {H : Hp}, z.length ≤ 1000000 → Known K H (.str z) := fun h => Known.str h
    have exo : ∀ {H' : Hp}, Ex H4 H' → Known K H' odd := fun {H'} e => (ho4.keep (KpT.roll (Roll.of_ex R34.dice e))).1.known
    -- what is told
    refine ⟨_, rfl, _, rfl, exo (Ex.refl _), fun H5 e5 => ⟨_, rfl, _, rfl, exo e5, fun H6 e6 => ⟨_, rfl, ks (by decide +kernel), fun H7 e7 => ⟨_, rfl, ks (by decide +kernel), fun H8 e8 => ⟨_, 13, rfl, rfl, by decide +kernel, by decide, _, rfl, ks (by decide +kernel), fun H9 e9 => ⟨by show 5 ≤ sizeLine; decide, fun A1 hA1 => ?_⟩⟩⟩⟩⟩⟩
    have f9 := (((e5.trans e6).trans e7).trans e8).trans e9
    have f10 := f9.trans (Ex.new (o := .lst [V.bl (isPath odd), .bl (isPat odd), .bl (isPath (.str (Str.ofString "*"))), .bl (isPath (.str (Str.ofString "a?"))), .bl (isPat (.str (repS (Str.ofString "*") 13)))]) hA1)
    refine ⟨_, rfl, _, rfl, _, rfl, ks (by omega), fun H11 e11 => ⟨_, rfl, _, rfl, ks (by omega), fun H12 e12 => ⟨_, rfl, _, rfl, ks (by omega), fun H13 e13 => ⟨by show 3 ≤ sizeLine; decide, fun A2 hA2 => ⟨A1, A2, _, _, rfl, rfl, (((e11.trans e12).trans e13).trans (Ex.new hA2)) _ _ upd_same, upd_same, by show 8 ≤ sizeLine; decide, fun A3 hA3 => ?_⟩⟩⟩⟩⟩
    have f14 := (((f10.trans e11).trans e12).trans e13).trans (Ex.new (o := .lst [V.bl (isPath (.str zp)), .bl (isPat (.str zq)), .bl (isPat (.str zp))]) hA2)
    have f15 := f14.trans (Ex.new (o := .lst ([V.bl (isPath odd), .bl (isPat odd), .bl (isPath (.str (Str.ofString "*"))), .bl (isPath (.str (Str.ofString "a?"))), .bl (isPat (.str (repS (Str.ofString "*") 13)))] ++ [V.bl (isPath (.str zp)), .bl (isPat (.str zq)), .bl (isPat (.str zp))])) hA3)
    have dp : ∀ {H' : Hp} {a : Addr}, H' a = some (.lst [V.bl false, .bl false, .bl false, .bl false, .bl false, .bl true, .bl true, .bl true]) → Dp K H' (.ref a) (.list [.bool false, .bool false, .bool false, .bool false, .bool false, .bool true, .bool true, .bool true]) :=
      fun h => .lst (SqL.of h) (.cons (.bl _) (.cons (.bl _) (.cons (.bl _) (.cons (.bl _) (.cons (.bl _) (.cons (.bl _) (.cons (.bl _) (.cons (.bl _) .nil))))))))
    have c1 : isPath (.str (Str.ofString "*")) = false := by decide +kernel
    have c2 : isPath (.str (Str.ofString "a?")) = false := by decide +kernel
    have c3 : isPat (.str (repS (Str.ofString "*") 13)) = false := by decide +kernel
    refine ⟨_, rfl, A3, _, rfl, dp (by rw [upd_same, hop, hoq, hp1, hp2, hq1, c1, c2, c3]; rfl), by decide +kernel, by decide +kernel, by decide +kernel, by decide +kernel, ?_⟩
    refine ⟨by show 1 ≤ sizeLine; decide, fun B1 hB1 => ⟨B1, _, _, rfl, rfl, upd_same, by decide, by decide, by show 5 ≤ sizeLine; decide, fun B2 hB2 => ⟨by show 1 ≤ sizeLine; decide, fun B3 hB3 => ⟨B3, _, _, rfl, rfl, upd_same, by decide, by decide, by show 3 ≤ sizeLine; decide, fun B4 hB4 => ⟨B2, B4, _, _, rfl, rfl, ((Ex.new hB3).trans (Ex.new hB4)) _ _ upd_same, upd_same, by show 8 ≤ sizeLine; decide, fun B5 hB5 => ⟨B5, _, rfl, dp (by rw [upd_same]; rfl), by decide +kernel, by decide +kernel, by decide +kernel, by decide +kernel, rfl, _, rfl, ?_⟩⟩⟩⟩⟩⟩
    have f16 := ((((f15.trans (Ex.new hB1)).trans (Ex.new hB2)).trans (Ex.new hB3)).trans (Ex.new hB4)).trans (Ex.new (o := .lst ((List.replicate (Int.toNat 5) [V.bl false]).flatten ++ (List.replicate (Int.toNat 3) [V.bl true]).flatten)) hB5)
    refine ite2 (fun h => by simp at h) (fun _ => ?_)
    have RR := Roll.of_ex R34.dice f16
    have k5 := KpT.roll (R04.trans RR)
    have t5 := tabs_roll (R04.trans RR) hd ht
    have ho5 := ho4.keep (KpT.roll RR)
    have hd5 := RR.dice
    clear f16 f15 f14 f10 f9
    generalize upd _ B5 _ = H16 at *
    have exo5 : ∀ {H' : Hp}, KpT d H16 H' → Known K H' odd := fun k => (ho5.keep k).1.known
    refine ⟨t5, fun H17 e17 t17 => ?_⟩
    have k17 := KpT.ext hd5 e17
    refine ⟨_, rfl, _, rfl, odd, .str zp, rfl, exo5 k17, fun _ _ => ks (by omega), (fun h => by rw [hoq] at h; cases h), fun _ H18 e18 => ⟨true, T.e_InvalidText, fun _ => ?_, fun h => by cases h⟩⟩
    refine ⟨by show 1 ≤ sizeLine; decide, fun M hM => ?_⟩
    have hd16 : ∃ o, H16 d = some o ∧ ∀ ps, o ≠ .tbl ps := by obtain ⟨x, y, z, e⟩ := hd5; exact ⟨_, e, fun ps z => by cases z⟩
    obtain ⟨o16, ho16, nt16⟩ := hd16
    have nM : M ≠ d := fun e => by
      have e2 := e18 _ _ (e17 _ _ ho16 nt16)
      rw [← e, hM] at e2
      cases e2
    have m19 : (upd H18 M (.lst [.str (Str.ofString "text")])) M = some (.lst [.str (Str.ofString "text")]) := upd_same
    have x19 := e18.trans (Ex.new (o := .lst [.str (Str.ofString "text")]) hM)
    generalize upd H18 M _ = H19 at *
    have t19 := t17.ext x19
    have k19 := k17.trans (KpT.roll (Roll.of_ex k17.1 x19))
    -- the second one
    refine ⟨_, rfl, .inl ⟨rfl, _, SqL.of m19⟩, t19, fun H20 e20 t20 => ?_⟩
    have k20 := k19.trans (KpT.ext k19.1 e20)
    refine ⟨_, rfl, _, rfl, .str zq, odd, rfl, ks (by omega), (fun H' e' => exo5 (k20.trans (KpT.roll (Roll.of_ex k20.1 e')))), (fun _ h => by rw [hop] at h; cases h), fun _ H21 e21 => ⟨true, T.e_InvalidText, fun _ => ?_, fun h => by cases h⟩⟩
    have m21 := e21 _ _ (e20 _ _ m19 fun ps z => by cases z)
    refine ⟨M, _, _, rfl, rfl, m21, by decide, ?_⟩
    have fM : ∀ o, H16 M = some o → (∀ ps, o ≠ .tbl ps) → False := fun o e nt => by
      have e2 := e18 _ _ (e17 _ _ e nt)
      rw [hM] at e2
      cases e2
    have t21 := t20.ext e21
    have t22 := tabs_mut (o := .lst ([.str (Str.ofString "text")] ++ [.str (Str.ofString "text")])) t21 m21
    have k22 := (k20.trans (KpT.roll (Roll.of_ex k20.1 e21))).mut (o := .lst ([.str (Str.ofString "text")] ++ [.str (Str.ofString "text")])) fM nM
    have m22 : (upd H21 M (.lst ([.str (Str.ofString "text")] ++ [.str (Str.ofString "text")]))) M = some (.lst ([.str (Str.ofString "text")] ++ [.str (Str.ofString "text")])) := upd_same
    generalize upd H21 M _ = H22 at *
    -- the third one
    refine ⟨_, rfl, .inl ⟨rfl, _, SqL.of m22⟩, t22, fun H23 e23 t23 => ?_⟩
    have k23 := k22.trans (KpT.ext k22.1 e23)
    refine ⟨_, rfl, _, rfl, odd, odd, rfl, exo5 k23, (fun H' e' => exo5 (k23.trans (KpT.roll (Roll.of_ex k23.1 e')))), (fun h => by rw [hoq] at h; cases h), fun _ H24 e24 => ⟨true, T.e_InvalidText, fun _ => ?_, fun h => by cases h⟩⟩
    have m24 := e24 _ _ (e23 _ _ m22 fun ps z => by cases z)
    refine ⟨M, _, _, rfl, rfl, m24, by decide, ?_⟩
    have t25 := tabs_mut (o := .lst ([.str (Str.ofString "text")] ++ [.str (Str.ofString "text")] ++ [.str (Str.ofString "text")])) (t23.ext e24) m24
    have k25 := (k23.trans (KpT.roll (Roll.of_ex k23.1 e24))).mut (o := .lst ([.str (Str.ofString "text")] ++ [.str (Str.ofString "text")] ++ [.str (Str.ofString "text")])) fM nM
    have m25 : (upd H24 M (.lst ([.str (Str.ofString "text")] ++ [.str (Str.ofString "text")] ++ [.str (Str.ofString "text")]))) M = some (.lst ([.str (Str.ofString "text")] ++ [.str (Str.ofString "text")] ++ [.str (Str.ofString "text")])) := upd_same
    generalize upd H24 M _ = H25 at *
    -- the fourth one
    refine ⟨_, rfl, .inl ⟨rfl, _, SqL.of m25⟩, t25, fun H26 e26 t26 => ?_⟩
    have k26 := k25.trans (KpT.ext k25.1 e26)
    have e0 : cutS zq none (some 0) ++ Str.ofString "*" = Str.ofString "*" := TL.ext_tl (by
      show tl (cutS zq none (some 0) ++ Str.ofString "*") = tl (Str.ofString "*")
      rw [tl_app, show tl (cutS zq none (some 0)) = (tl zq).take 0 from tl_cutTo zq 0]
      rfl)
    refine ⟨_, rfl, _, rfl, _, rfl, zq, rfl, sizeL (by omega), _, _, rfl, rfl, sizeL (by rw [show (Str.ofString "*").length = 1 by decide +kernel]; have := len_cut zq none (some 0); omega), .str zp, _, rfl, ks (by omega), (fun H' e' => by rw [e0]; exact ks (by decide +kernel)), (fun _ h => by rw [e0, c1] at h; cases h), fun _ H27 e27 => ⟨true, T.e_InvalidText, fun _ => ?_, fun h => by cases h⟩⟩
    have m27 := e27 _ _ (e26 _ _ m25 fun ps z => by cases z)
    refine ⟨M, _, _, rfl, rfl, m27, by decide, ?_⟩
    have t28 := tabs_mut (o := .lst ([.str (Str.ofString "text")] ++ [.str (Str.ofString "text")] ++ [.str (Str.ofString "text")] ++ [.str (Str.ofString "text")])) (t26.ext e27) m27
    have k28 := (k26.trans (KpT.roll (Roll.of_ex k26.1 e27))).mut (o := .lst ([.str (Str.ofString "text")] ++ [.str (Str.ofString "text")] ++ [.str (Str.ofString "text")] ++ [.str (Str.ofString "text")])) fM nM
    have m28 : (upd H27 M (.lst ([.str (Str.ofString "text")] ++ [.str (Str.ofString "text")] ++ [.str (Str.ofString "text")] ++ [.str (Str.ofString "text")]))) M = some (.lst ([.str (Str.ofString "text")] ++ [.str (Str.ofString "text")] ++ [.str (Str.ofString "text")] ++ [.str (Str.ofString "text")])) := upd_same
    generalize upd H27 M _ = H28 at *
    have dt : ∀ {H' : Hp} {a : Addr}, H' a = some (.lst [.str (Str.ofString "text"), .str (Str.ofString "text"), .str (Str.ofString "text"), .str (Str.ofString "text")]) → Dp K H' (.ref a) (.list [.str (Str.ofString "text"), .str (Str.ofString "text"), .str (Str.ofString "text"), .str (Str.ofString "text")]) :=
      fun h => .lst (SqL.of h) (.cons (.str _) (.cons (.str _) (.cons (.str _) (.cons (.str _) .nil))))
    refine ⟨_, rfl, by show 1 ≤ sizeLine; decide, fun N1 hN1 => ⟨N1, _, _, rfl, rfl, upd_same, by decide, by decide, by show 4 ≤ sizeLine; decide, fun N2 hN2 => ?_⟩⟩
    have x29 := (Ex.new (o := .lst [V.str (Str.ofString "text")]) hN1).trans (Ex.new (o := .lst (List.replicate (Int.toNat 4) [V.str (Str.ofString "text")]).flatten) hN2)
    refine ⟨_, _, dt (x29 _ _ m28), dt (by rw [upd_same]; rfl), by decide +kernel, by decide +kernel, ?_⟩
    rw [show PyData.eqv (.list [.str (Str.ofString "text"), .str (Str.ofString "text"), .str (Str.ofString "text"), .str (Str.ofString "text")]) (.list [.str (Str.ofString "text"), .str (Str.ofString "text"), .str (Str.ofString "text"), .str (Str.ofString "text")]) = true by decide +kernel]
    exact q _ (k5.trans (k28.trans (KpT.roll (Roll.of_ex k28.1 x29)))) (t28.ext x29)
end
end My
namespace My
open PySem PySem.Spec PyProof.Rows L2 Lk Evl LamX
theorem SqL.extN {K : PySem.W.Frag} {H H' : Hp} {a : Addr} {xs : List V} (h : SqL K H a xs) (e : ExtN H H') : SqL K H' a xs := by
  unfold SqL Rd at h ⊢
  rcases h with (h | ⟨o, h⟩) | h
  · exact .inl (.inl (e _ _ h fun ps z => by cases z))
  · exact .inl (.inr ⟨o, e _ _ h fun ps z => by cases z⟩)
  · exact .inr h
section
variable {P : Program} {w : World} {K : PySem.W.Frag} {mg : Str → Option Value} {base : Heap}
def spLaw (K : PySem.W.Frag) (TT : List (Addr × Str)) : Sp := fun vs H Q _ => ∃ (a : Addr) (ns : List Int), vs = [.ref a] ∧ ns.length ≤ 1000 ∧ SqL K H a (ns.map V.int) ∧ Tabs TT H ∧ ∀ H', Q (.bl true) H'
theorem ok_law (T : Tx K mg) {c Pt : Addr} (hc : T.d__law_odd_right.code = .ref c) (TB : TabB base mg c Pt) : FnG P w K mg base CX0 20 T.a_law T.d_law ps_law (spLaw K (tabT Pt)) := by
  have G__law_dice := ok_dice (P := P) (w := w) (base := base) T
  have G__law_signs := ok_signs (P := P) (w := w) (base := base) T
  have G__law_short_right := ok_short (P := P) (w := w) (base := base) T
  have G__law_long_right := ok_long (P := P) (w := w) (base := base) T
  have G__law_odd_right := ok_odd (P := P) (w := w) (base := base) T hc TB
  have G_fits := ok_fits (P := P) (w := w) (base := base) T
  refine Fun.okG T.F_law sc_law (fun vs H Q E h => ?_) (fun cdv A outer s H vs Q E hga hr h => ?_)
  · obtain ⟨a, ns, rfl, _⟩ := h
    rfl
  · obtain ⟨a, ns, rfl, hn, ha, ht, q⟩ := h
    refine ⟨_, (pss_cons (ps_for PassesOwn.never rfl (pi_range1 (by rfl) T.n_range (pa_cons (pe_callB (call_max2 rfl) (by rfl) T.n_max (by decide +kernel) (pa_cons pe_int (pa_cons (pe_callB (call_min2 rfl) (by rfl) T.n_min (by decide +kernel) (pa_cons pe_int (pa_cons (pe_callB (len_seqK (K := K)) (by rfl) T.n_len PySem.boot_len (pa_cons (pv 0) pa_nil)) pa_nil))) pa_nil))) pa_nil)) (pg_name (i := 1) sc_law.nd rfl (Or.inl rfl))
    (pss_cons (ps_set (i := 2) sc_law.nd rfl (Or.inl rfl) (pe_call G__law_dice (hr.mono (by first | decide | exact Nat.le_refl _)) rfl T.m__law_dice T.k__law_dice T.b__law_dice .nil pass0 (pa_cons (pv 0) (pa_cons (pv 1) pa_nil))))
  (pss_cons (ps_set (i := 3) sc_law.nd rfl (Or.inl rfl) (pe_call G__law_signs (hr.mono (by first | decide | exact Nat.le_refl _)) rfl T.m__law_signs T.k__law_signs T.b__law_signs .nil pass0 (pa_cons (pv 2) (pa_cons pe_int pa_nil))))
  (pss_one (ps_if (PW.pt (pw_or (pt_not (pt_val (pe_call G__law_short_right (hr.mono (by first | decide | exact Nat.le_refl _)) rfl T.m__law_short_right T.k__law_short_right T.b__law_short_right .nil pass0 (pa_cons (pv 2) (pa_cons (pv 3) pa_nil))))) (pw_or (pt_not (pt_val (pe_call G__law_long_right (hr.mono (by first | decide | exact Nat.le_refl _)) rfl T.m__law_long_right T.k__law_long_right T.b__law_long_right .nil pass0 (pa_cons (pv 2) (pa_cons (pv 3) pa_nil))))) (pw_or1 (pt_not (pt_val (pe_callG G__law_odd_right hga (hr.mono (by first | decide | exact Nat.le_refl _)) rfl T.m__law_odd_right T.k__law_odd_right T.b__law_odd_right pass0 (pa_cons (pv 2) (pa_cons (pv 3) pa_nil))))))))) (pss_one (ps_ret pe_bl)) pss_nil)))))
  (pss_cons (ps_set (i := 4) sc_law.nd rfl (Or.inl rfl) (pe_lst (pa_cons (pe_call G_fits (hr.mono (by first | decide | exact Nat.le_refl _)) rfl T.m_fits T.k_fits T.b_fits .nil passL (pa_cons pe_str (pa_cons (pe_op op_rep_str pe_str pe_int) pa_nil))) (pa_cons (pe_call G_fits (hr.mono (by first | decide | exact Nat.le_refl _)) rfl T.m_fits T.k_fits T.b_fits .nil passL (pa_cons pe_str (pa_cons (pe_op op_rep_str pe_str pe_int) pa_nil))) (pa_cons (pe_call G_fits (hr.mono (by first | decide | exact Nat.le_refl _)) rfl T.m_fits T.k_fits T.b_fits .nil passL (pa_cons (pe_op op_rep_str pe_str pe_int) (pa_cons pe_str pa_nil))) (pa_cons (pe_call G_fits (hr.mono (by first | decide | exact Nat.le_refl _)) rfl T.m_fits T.k_fits T.b_fits .nil passL (pa_cons pe_str (pa_cons pe_str pa_nil))) pa_nil))))))
  (pss_cons (ps_set (i := 4) sc_law.nd rfl (Or.inl rfl) (pe_op op_cat (pv 4) (pe_lst (pa_cons (pe_call G_fits (hr.mono (by first | decide | exact Nat.le_refl _)) rfl T.m_fits T.k_fits T.b_fits .nil passL (pa_cons (pe_op op_rep_str pe_str pe_int) (pa_cons (pe_op op_rep_str pe_str pe_int) pa_nil))) (pa_cons (pe_call G_fits (hr.mono (by first | decide | exact Nat.le_refl _)) rfl T.m_fits T.k_fits T.b_fits .nil passL (pa_cons pe_str (pa_cons pe_str pa_nil))) (pa_cons (pe_call G_fits (hr.mono (by first | decide | exact Nat.le_refl _)) rfl T.m_fits T.k_fits T.b_fits .nil passL (pa_cons pe_str (pa_cons pe_str pa_nil))) (pa_cons (pe_call G_fits (hr.mono (by first | decide | exact Nat.le_refl _)) rfl T.m_fits T.k_fits T.b_fits .nil passL (pa_cons pe_str (pa_cons pe_str pa_nil))) (pa_cons (pe_call G_fits (hr.mono (by first | decide | exact Nat.le_refl _)) rfl T.m_fits T.k_fits T.b_fits .nil passL (pa_cons pe_str (pa_cons pe_str pa_nil))) pa_nil))))))))
  (pss_one (ps_ret (pe_cmpR op_eq (pe_callB (reprDK (K := K) hr.units hga) (by rfl) T.n_repr (by decide +kernel) (pa_cons (pv 4) pa_nil)) (pe_callB (reprDK (K := K) hr.units hga) (by rfl) T.n_repr (by decide +kernel) (pa_cons (pe_lst (pa_cons pe_bl (pa_cons pe_bl (pa_cons pe_bl (pa_cons pe_bl (pa_cons pe_bl (pa_cons pe_bl (pa_cons pe_bl (pa_cons pe_bl (pa_cons pe_bl pa_nil)))))))))) pa_nil)) (nomark _))))))), ?_⟩
    refine ⟨_, rfl, a, _, rfl, .inl ha, _, _, rfl, _, _, rfl, _, rfl, ?_, ?_, for_of (feeds_range 0 _) (fun i σ H1 => ∃ v1 v2 v3 : Option V, σ = [some (.ref a), v1, v2, v3, none] ∧ ExtN H H1 ∧ Tabs (tabT Pt) H1) ⟨none, none, none, rfl, ExtN.refl _, ht⟩ (fun _ _ _ _ => trivial) ?_ ?_⟩
    · split <;> split <;> omega
    · have := hn
      rw [List.length_map]
      split <;> split <;> omega
    · rintro i x σ H1 hx ⟨v1, v2, v3, rfl, e1, t1⟩
      obtain ⟨j, hj, rfl⟩ := List.mem_map.mp (mem_get hx)
      have ha1 := SqL.extN ha e1
      refine ⟨_, rfl, _, rfl, a, ns, _, rfl, ha1, fun d H2 hdn x2 hd2 => ?_⟩
      have t2 := t1.ext x2
      refine ⟨_, rfl, d, 3, rfl, hd2, by decide, by decide, fun b cs H3 hb hs R3 => ?_⟩
      have t3 := tabs_roll R3 hd2 t2
      have hbd : b ≠ d := fun e => by
        have h := hs.1
        rw [e] at h
        obtain ⟨x, y, z, e2⟩ := R3.dice
        rw [e2] at h; cases h
      refine ⟨_, rfl, _, rfl, d, b, cs, rfl, R3.dice, hs, fun H4 R4 => ⟨_, rfl, ?_⟩⟩
      have t4 := tabs_roll R4 R3.dice t3
      refine ite2 (fun h => by simp at h) (fun _ => ?_)
      have hs4 : SignsAt H4 b cs 3 := ⟨R4.keep _ _ hs.1 hbd, hs.2⟩
      refine ⟨_, rfl, _, rfl, d, b, cs, rfl, R4.dice, hs4, fun H5 R5 => ⟨_, rfl, ?_⟩⟩
      have t5 := tabs_roll R5 R4.dice t4
      refine ite2 (fun h => by simp at h) (fun _ => ?_)
      refine ⟨_, rfl, _, rfl, d, b, rfl, R5.dice, t5, fun H6 k6 t6 => ⟨_, rfl, ?_⟩⟩
      refine ite2 (fun h => by simp at h) (fun _ => ?_)
      refine ⟨_, _, _, rfl, fun u o e nt => ?_, t6⟩
      have e' := x2 _ _ (e1 _ _ e nt)
      have hud : u ≠ d := fun z => by
        rw [z] at e
        have := e1 _ _ e nt
        rw [hdn] at this
        cases this
      exact k6.2 _ _ (R5.keep _ _ (R4.keep _ _ (R3.keep _ _ e' hud) hud) hud) hud nt
    · rintro σ H1 ⟨v1, v2, v3, rfl, -, t1⟩
      refine ⟨_, 6, rfl, rfl, by decide +kernel, by decide, _, _, rfl, Known.str (by decide +kernel), fun _ _ => Known.str (by decide +kernel), fun _ _ x1 y1 ex ey H2 e2 => ?_, fun h => (not_bad (by decide +kernel) (by decide +kernel) h).elim⟩
      cases ex
      cases ey
      refine ⟨_, 5, rfl, rfl, by decide +kernel, by decide, _, _, rfl, Known.str (by decide +kernel), fun _ _ => Known.str (by decide +kernel), fun _ _ x1 y1 ex ey H3 e3 => ?_, fun h => (not_bad (by decide +kernel) (by decide +kernel) h).elim⟩
      cases ex
      cases ey
      refine ⟨_, 12, rfl, rfl, by decide +kernel, by decide, _, _, rfl, Known.str (by decide +kernel), fun _ _ => Known.str (by decide +kernel), fun _ _ x1 y1 ex ey H4 e4 => ?_, fun h => (not_bad (by decide +kernel) (by decide +kernel) h).elim⟩
      cases ex
      cases ey
      refine ⟨_, _, rfl, Known.str (by decide +kernel), fun _ _ => Known.str (by decide +kernel), fun _ _ x1 y1 ex ey H5 e5 => ?_, fun h => (not_bad (by decide +kernel) (by decide +kernel) h).elim⟩
      cases ex
      cases ey
      have m1 : Fm.mt (tl (Str.ofString "*a*a*a*a*a*a")) (tl (repS (Str.ofString "a") 6)) = true := by decide +kernel
      have m2 : Fm.mt (tl (Str.ofString "*a*a*a*a*a*a")) (tl (repS (Str.ofString "a") 5)) = false := by decide +kernel
      have m3 : Fm.mt (tl (repS (Str.ofString "*") 12)) (tl (Str.ofString "$")) = true := by decide +kernel
      have m4 : Fm.mt (tl (Str.ofString "*?*?*")) (tl (Str.ofString "a")) = false := by decide +kernel
      have m5 : Fm.mt (tl (repS (Str.ofString "?") 12)) (tl (repS (Str.ofString "_") 12)) = true := by decide +kernel
      have m6 : Fm.mt (tl (Str.ofString "a*b")) (tl (Str.ofString "ab")) = true := by decide +kernel
      have m7 : Fm.mt (tl (Str.ofString "a*b")) (tl (Str.ofString "aba")) = false := by decide +kernel
      have m8 : Fm.mt (tl (Str.ofString "*:*")) (tl (Str.ofString "#:")) = true := by decide +kernel
      have m9 : Fm.mt (tl (Str.ofString "**")) (tl (Str.ofString "0")) = true := by decide +kernel
      refine ⟨by show 4 ≤ sizeLine; decide, fun A1 hA1 => ?_⟩
      refine ⟨_, rfl, _, 12, rfl, rfl, by decide +kernel, by decide, _, 12, rfl, rfl, by decide +kernel, by decide, _, _, rfl, Known.str (by decide +kernel), fun _ _ => Known.str (by decide +kernel), fun _ _ x1 y1 ex ey H6 e6 => ?_, fun h => (not_bad (by decide +kernel) (by decide +kernel) h).elim⟩
      cases ex
      cases ey
      refine ⟨_, _, rfl, Known.str (by decide +kernel), fun _ _ => Known.str (by decide +kernel), fun _ _ x1 y1 ex ey H7 e7 => ?_, fun h => (not_bad (by decide +kernel) (by decide +kernel) h).elim⟩
      cases ex
      cases ey
      refine ⟨_, _, rfl, Known.str (by decide +kernel), fun _ _ => Known.str (by decide +kernel), fun _ _ x1 y1 ex ey H8 e8 => ?_, fun h => (not_bad (by decide +kernel) (by decide +kernel) h).elim⟩
      cases ex
      cases ey
      refine ⟨_, _, rfl, Known.str (by decide +kernel), fun _ _ => Known.str (by decide +kernel), fun _ _ x1 y1 ex ey H9 e9 => ?_, fun h => (not_bad (by decide +kernel) (by decide +kernel) h).elim⟩
      cases ex
      cases ey
      refine ⟨_, _, rfl, Known.str (by decide +kernel), fun _ _ => Known.str (by decide +kernel), fun _ _ x1 y1 ex ey H10 e10 => ?_, fun h => (not_bad (by decide +kernel) (by decide +kernel) h).elim⟩
      cases ex
      cases ey
      have dp : ∀ {H' : Hp} {a : Addr}, H' a = some (.lst [.bl true, .bl false, .bl true, .bl false, .bl true, .bl true, .bl false, .bl true, .bl true]) → Dp K H' (.ref a) (.list [.bool true, .bool false, .bool true, .bool false, .bool true, .bool true, .bool false, .bool true, .bool true]) := fun h => .lst (SqL.of h) (.cons (.bl _) (.cons (.bl _) (.cons (.bl _) (.cons (.bl _) (.cons (.bl _) (.cons (.bl _) (.cons (.bl _) (.cons (.bl _) (.cons (.bl _) .nil)))))))))
      refine ⟨by show 5 ≤ sizeLine; decide, fun A2 hA2 => ⟨A1, A2, _, _, rfl, rfl, (((((e6.trans e7).trans e8).trans e9).trans e10).trans (Ex.new hA2)) _ _ upd_same, upd_same, by show 9 ≤ sizeLine; decide, fun A3 hA3 => ?_⟩⟩
      refine ⟨_, rfl, A3, _, rfl, dp (by rw [upd_same, m1, m2, m3, m4, m5, m6, m7, m8, m9]; rfl), by decide +kernel, by decide +kernel, by decide +kernel, by decide +kernel, ?_⟩
      refine ⟨by show 9 ≤ sizeLine; decide, fun B1 hB1 => ⟨B1, _, rfl, dp upd_same, by decide +kernel, by decide +kernel, by decide +kernel, by decide +kernel, rfl, ?_⟩⟩
      rw [decide_eq_true rfl]
      exact q _
end
end My
namespace My
open PySem PySem.Spec PyProof.Rows L2 Lk Evl LamX
theorem all_mk {l : PySem.W.OpenLaw} {w : World} {K : PySem.W.Frag} {h : Heap} {mg : Str → Option Value} {fa : Addr} (X : K.In h) (G : h.Ns mainGlobals mg) (hfa : mg "law" = some (.ref fa))
    {a_is_text : Addr} {od_is_text an_is_text : Option Addr} {sl_is_text : Array (Option Value)} {oc_is_text kV_is_text dc_is_text pm_is_text cd_is_text ct_is_text : Value}
    {a_is_path : Addr} {od_is_path an_is_path : Option Addr} {sl_is_path : Array (Option Value)} {oc_is_path kV_is_path dc_is_path pm_is_path cd_is_path ct_is_path : Value}
    {a_is_path_pattern : Addr} {od_is_path_pattern an_is_path_pattern : Option Addr} {sl_is_path_pattern : Array (Option Value)} {oc_is_path_pattern kV_is_path_pattern dc_is_path_pattern pm_is_path_pattern cd_is_path_pattern ct_is_path_pattern : Value}
    {a_require_path : Addr} {od_require_path an_require_path : Option Addr} {sl_require_path : Array (Option Value)} {oc_require_path kV_require_path dc_require_path pm_require_path cd_require_path ct_require_path : Value}
    {a_begun_places : Addr} {od_begun_places an_begun_places : Option Addr} {sl_begun_places : Array (Option Value)} {oc_begun_places kV_begun_places dc_begun_places pm_begun_places cd_begun_places ct_begun_places : Value}
    {a_later_places : Addr} {od_later_places an_later_places : Option Addr} {sl_later_places : Array (Option Value)} {oc_later_places kV_later_places dc_later_places pm_later_places cd_later_places ct_later_places : Value}
    {a_does_fit : Addr} {od_does_fit an_does_fit : Option Addr} {sl_does_fit : Array (Option Value)} {oc_does_fit kV_does_fit dc_does_fit pm_does_fit cd_does_fit ct_does_fit : Value}
    {a_fits : Addr} {od_fits an_fits : Option Addr} {sl_fits : Array (Option Value)} {oc_fits kV_fits dc_fits pm_fits cd_fits ct_fits : Value}
    {a__law_dice : Addr} {od__law_dice an__law_dice : Option Addr} {sl__law_dice : Array (Option Value)} {oc__law_dice kV__law_dice dc__law_dice pm__law_dice cd__law_dice ct__law_dice : Value}
    {a__law_roll : Addr} {od__law_roll an__law_roll : Option Addr} {sl__law_roll : Array (Option Value)} {oc__law_roll kV__law_roll dc__law_roll pm__law_roll cd__law_roll ct__law_roll : Value}
    {a__law_one_of : Addr} {od__law_one_of an__law_one_of : Option Addr} {sl__law_one_of : Array (Option Value)} {oc__law_one_of kV__law_one_of dc__law_one_of pm__law_one_of cd__law_one_of ct__law_one_of : Value}
    {a__law_mixed : Addr} {od__law_mixed an__law_mixed : Option Addr} {sl__law_mixed : Array (Option Value)} {oc__law_mixed kV__law_mixed dc__law_mixed pm__law_mixed cd__law_mixed ct__law_mixed : Value}
    {a__law_all_signs : Addr} {od__law_all_signs an__law_all_signs : Option Addr} {sl__law_all_signs : Array (Option Value)} {oc__law_all_signs kV__law_all_signs dc__law_all_signs pm__law_all_signs cd__law_all_signs ct__law_all_signs : Value}
    {a__law_signs : Addr} {od__law_signs an__law_signs : Option Addr} {sl__law_signs : Array (Option Value)} {oc__law_signs kV__law_signs dc__law_signs pm__law_signs cd__law_signs ct__law_signs : Value}
    {a__law_texts : Addr} {od__law_texts an__law_texts : Option Addr} {sl__law_texts : Array (Option Value)} {oc__law_texts kV__law_texts dc__law_texts pm__law_texts cd__law_texts ct__law_texts : Value}
    {a__law_fits : Addr} {od__law_fits an__law_fits : Option Addr} {sl__law_fits : Array (Option Value)} {oc__law_fits kV__law_fits dc__law_fits pm__law_fits cd__law_fits ct__law_fits : Value}
    {a__law_pattern : Addr} {od__law_pattern an__law_pattern : Option Addr} {sl__law_pattern : Array (Option Value)} {oc__law_pattern kV__law_pattern dc__law_pattern pm__law_pattern cd__law_pattern ct__law_pattern : Value}
    {a__law_by_splits : Addr} {od__law_by_splits an__law_by_splits : Option Addr} {sl__law_by_splits : Array (Option Value)} {oc__law_by_splits kV__law_by_splits dc__law_by_splits pm__law_by_splits cd__law_by_splits ct__law_by_splits : Value}
    {a__law_word_of : Addr} {od__law_word_of an__law_word_of : Option Addr} {sl__law_word_of : Array (Option Value)} {oc__law_word_of kV__law_word_of dc__law_word_of pm__law_word_of cd__law_word_of ct__law_word_of : Value}
    {a__law_short_right : Addr} {od__law_short_right an__law_short_right : Option Addr} {sl__law_short_right : Array (Option Value)} {oc__law_short_right kV__law_short_right dc__law_short_right pm__law_short_right cd__law_short_right ct__law_short_right : Value}
    {a__law_long_right : Addr} {od__law_long_right an__law_long_right : Option Addr} {sl__law_long_right : Array (Option Value)} {oc__law_long_right kV__law_long_right dc__law_long_right pm__law_long_right cd__law_long_right ct__law_long_right : Value}
    {a__law_odd_right : Addr} {od__law_odd_right an__law_odd_right : Option Addr} {sl__law_odd_right : Array (Option Value)} {oc__law_odd_right kV__law_odd_right dc__law_odd_right pm__law_odd_right cd__law_odd_right ct__law_odd_right : Value}
    {a_law : Addr} {od_law an_law : Option Addr} {sl_law : Array (Option Value)} {oc_law kV_law dc_law pm_law cd_law ct_law : Value}
    {c_InvalidText : Addr}
    {c_DressError : Addr}
    {t_SIGNS : Tok}
    {t_MAX_PATH : Tok}
    {t_ANY : Tok}
    {t_ONE : Tok}
    {c__law_odd_right_ P__law_odd_right_ : Addr}
    (h1_is_text : PySem.W.nsIn K mainGlobals "is_text" = some (some (.ref a_is_text)))
    (h2_is_text : K.lookup a_is_text = some ⟨oc_is_text, od_is_text, .func (PySem.W.fnOf "is_text" "is_text" (defArgs s_is_text) (defBody s_is_text) (defScope s_is_text) .none kV_is_text dc_is_text pm_is_text an_is_text cd_is_text ct_is_text), sl_is_text⟩)
    (h3_is_text : PySem.W.codeIn K cd_is_text "is_text" = true)
    (h4_is_text : PySem.W.keepIn K (.ref a_is_text) = true)
    (h1_is_path : PySem.W.nsIn K mainGlobals "is_path" = some (some (.ref a_is_path)))
    (h2_is_path : K.lookup a_is_path = some ⟨oc_is_path, od_is_path, .func (PySem.W.fnOf "is_path" "is_path" (defArgs s_is_path) (defBody s_is_path) (defScope s_is_path) .none kV_is_path dc_is_path pm_is_path an_is_path cd_is_path ct_is_path), sl_is_path⟩)
    (h3_is_path : PySem.W.codeIn K cd_is_path "is_path" = true)
    (h4_is_path : PySem.W.keepIn K (.ref a_is_path) = true)
    (h1_is_path_pattern : PySem.W.nsIn K mainGlobals "is_path_pattern" = some (some (.ref a_is_path_pattern)))
    (h2_is_path_pattern : K.lookup a_is_path_pattern = some ⟨oc_is_path_pattern, od_is_path_pattern, .func (PySem.W.fnOf "is_path_pattern" "is_path_pattern" (defArgs s_is_path_pattern) (defBody s_is_path_pattern) (defScope s_is_path_pattern) .none kV_is_path_pattern dc_is_path_pattern pm_is_path_pattern an_is_path_pattern cd_is_path_pattern ct_is_path_pattern), sl_is_path_pattern⟩)
    (h3_is_path_pattern : PySem.W.codeIn K cd_is_path_pattern "is_path_pattern" = true)
    (h4_is_path_pattern : PySem.W.keepIn K (.ref a_is_path_pattern) = true)
    (h1_require_path : PySem.W.nsIn K mainGlobals "require_path" = some (some (.ref a_require_path)))
    (h2_require_path : K.lookup a_require_path = some ⟨oc_require_path, od_require_path, .func (PySem.W.fnOf "require_path" "require_path" (defArgs s_require_path) (defBody s_require_path) (defScope s_require_path) .none kV_require_path dc_require_path pm_require_path an_require_path cd_require_path ct_require_path), sl_require_path⟩)
    (h3_require_path : PySem.W.codeIn K cd_require_path "require_path" = true)
    (h4_require_path : PySem.W.keepIn K (.ref a_require_path) = true)
    (h1_begun_places : PySem.W.nsIn K mainGlobals "begun_places" = some (some (.ref a_begun_places)))
    (h2_begun_places : K.lookup a_begun_places = some ⟨oc_begun_places, od_begun_places, .func (PySem.W.fnOf "begun_places" "begun_places" (defArgs s_begun_places) (defBody s_begun_places) (defScope s_begun_places) .none kV_begun_places dc_begun_places pm_begun_places an_begun_places cd_begun_places ct_begun_places), sl_begun_places⟩)
    (h3_begun_places : PySem.W.codeIn K cd_begun_places "begun_places" = true)
    (h4_begun_places : PySem.W.keepIn K (.ref a_begun_places) = true)
    (h1_later_places : PySem.W.nsIn K mainGlobals "later_places" = some (some (.ref a_later_places)))
    (h2_later_places : K.lookup a_later_places = some ⟨oc_later_places, od_later_places, .func (PySem.W.fnOf "later_places" "later_places" (defArgs s_later_places) (defBody s_later_places) (defScope s_later_places) .none kV_later_places dc_later_places pm_later_places an_later_places cd_later_places ct_later_places), sl_later_places⟩)
    (h3_later_places : PySem.W.codeIn K cd_later_places "later_places" = true)
    (h4_later_places : PySem.W.keepIn K (.ref a_later_places) = true)
    (h1_does_fit : PySem.W.nsIn K mainGlobals "does_fit" = some (some (.ref a_does_fit)))
    (h2_does_fit : K.lookup a_does_fit = some ⟨oc_does_fit, od_does_fit, .func (PySem.W.fnOf "does_fit" "does_fit" (defArgs s_does_fit) (defBody s_does_fit) (defScope s_does_fit) .none kV_does_fit dc_does_fit pm_does_fit an_does_fit cd_does_fit ct_does_fit), sl_does_fit⟩)
    (h3_does_fit : PySem.W.codeIn K cd_does_fit "does_fit" = true)
    (h4_does_fit : PySem.W.keepIn K (.ref a_does_fit) = true)
    (h1_fits : PySem.W.nsIn K mainGlobals "fits" = some (some (.ref a_fits)))
    (h2_fits : K.lookup a_fits = some ⟨oc_fits, od_fits, .func (PySem.W.fnOf "fits" "fits" (defArgs s_fits) (defBody s_fits) (defScope s_fits) .none kV_fits dc_fits pm_fits an_fits cd_fits ct_fits), sl_fits⟩)
    (h3_fits : PySem.W.codeIn K cd_fits "fits" = true)
    (h4_fits : PySem.W.keepIn K (.ref a_fits) = true)
    (h1__law_dice : PySem.W.nsIn K mainGlobals "_law_dice" = some (some (.ref a__law_dice)))
    (h2__law_dice : K.lookup a__law_dice = some ⟨oc__law_dice, od__law_dice, .func (PySem.W.fnOf "_law_dice" "_law_dice" (defArgs s__law_dice) (defBody s__law_dice) (defScope s__law_dice) .none kV__law_dice dc__law_dice pm__law_dice an__law_dice cd__law_dice ct__law_dice), sl__law_dice⟩)
    (h3__law_dice : PySem.W.codeIn K cd__law_dice "_law_dice" = true)
    (h4__law_dice : PySem.W.keepIn K (.ref a__law_dice) = true)
    (h1__law_roll : PySem.W.nsIn K mainGlobals "_law_roll" = some (some (.ref a__law_roll)))
    (h2__law_roll : K.lookup a__law_roll = some ⟨oc__law_roll, od__law_roll, .func (PySem.W.fnOf "_law_roll" "_law_roll" (defArgs s__law_roll) (defBody s__law_roll) (defScope s__law_roll) .none kV__law_roll dc__law_roll pm__law_roll an__law_roll cd__law_roll ct__law_roll), sl__law_roll⟩)
    (h3__law_roll : PySem.W.codeIn K cd__law_roll "_law_roll" = true)
    (h4__law_roll : PySem.W.keepIn K (.ref a__law_roll) = true)
    (h1__law_one_of : PySem.W.nsIn K mainGlobals "_law_one_of" = some (some (.ref a__law_one_of)))
    (h2__law_one_of : K.lookup a__law_one_of = some ⟨oc__law_one_of, od__law_one_of, .func (PySem.W.fnOf "_law_one_of" "_law_one_of" (defArgs s__law_one_of) (defBody s__law_one_of) (defScope s__law_one_of) .none kV__law_one_of dc__law_one_of pm__law_one_of an__law_one_of cd__law_one_of ct__law_one_of), sl__law_one_of⟩)
    (h3__law_one_of : PySem.W.codeIn K cd__law_one_of "_law_one_of" = true)
    (h4__law_one_of : PySem.W.keepIn K (.ref a__law_one_of) = true)
    (h1__law_mixed : PySem.W.nsIn K mainGlobals "_law_mixed" = some (some (.ref a__law_mixed)))
    (h2__law_mixed : K.lookup a__law_mixed = some ⟨oc__law_mixed, od__law_mixed, .func (PySem.W.fnOf "_law_mixed" "_law_mixed" (defArgs s__law_mixed) (defBody s__law_mixed) (defScope s__law_mixed) .none kV__law_mixed dc__law_mixed pm__law_mixed an__law_mixed cd__law_mixed ct__law_mixed), sl__law_mixed⟩)
    (h3__law_mixed : PySem.W.codeIn K cd__law_mixed "_law_mixed" = true)
    (h4__law_mixed : PySem.W.keepIn K (.ref a__law_mixed) = true)
    (h1__law_all_signs : PySem.W.nsIn K mainGlobals "_law_all_signs" = some (some (.ref a__law_all_signs)))
    (h2__law_all_signs : K.lookup a__law_all_signs = some ⟨oc__law_all_signs, od__law_all_signs, .func (PySem.W.fnOf "_law_all_signs" "_law_all_signs" (defArgs s__law_all_signs) (defBody s__law_all_signs) (defScope s__law_all_signs) .none kV__law_all_signs dc__law_all_signs pm__law_all_signs an__law_all_signs cd__law_all_signs ct__law_all_signs), sl__law_all_signs⟩)
    (h3__law_all_signs : PySem.W.codeIn K cd__law_all_signs "_law_all_signs" = true)
    (h4__law_all_signs : PySem.W.keepIn K (.ref a__law_all_signs) = true)
    (h1__law_signs : PySem.W.nsIn K mainGlobals "_law_signs" = some (some (.ref a__law_signs)))
    (h2__law_signs : K.lookup a__law_signs = some ⟨oc__law_signs, od__law_signs, .func (PySem.W.fnOf "_law_signs" "_law_signs" (defArgs s__law_signs) (defBody s__law_signs) (defScope s__law_signs) .none kV__law_signs dc__law_signs pm__law_signs an__law_signs cd__law_signs ct__law_signs), sl__law_signs⟩)
    (h3__law_signs : PySem.W.codeIn K cd__law_signs "_law_signs" = true)
    (h4__law_signs : PySem.W.keepIn K (.ref a__law_signs) = true)
    (h1__law_texts : PySem.W.nsIn K mainGlobals "_law_texts" = some (some (.ref a__law_texts)))
    (h2__law_texts : K.lookup a__law_texts = some ⟨oc__law_texts, od__law_texts, .func (PySem.W.fnOf "_law_texts" "_law_texts" (defArgs s__law_texts) (defBody s__law_texts) (defScope s__law_texts) .none kV__law_texts dc__law_texts pm__law_texts an__law_texts cd__law_texts ct__law_texts), sl__law_texts⟩)
    (h3__law_texts : PySem.W.codeIn K cd__law_texts "_law_texts" = true)
    (h4__law_texts : PySem.W.keepIn K (.ref a__law_texts) = true)
    (h1__law_fits : PySem.W.nsIn K mainGlobals "_law_fits" = some (some (.ref a__law_fits)))
    (h2__law_fits : K.lookup a__law_fits = some ⟨oc__law_fits, od__law_fits, .func (PySem.W.fnOf "_law_fits" "_law_fits" (defArgs s__law_fits) (defBody s__law_fits) (defScope s__law_fits) .none kV__law_fits dc__law_fits pm__law_fits an__law_fits cd__law_fits ct__law_fits), sl__law_fits⟩)
    (h3__law_fits : PySem.W.codeIn K cd__law_fits "_law_fits" = true)
    (h4__law_fits : PySem.W.keepIn K (.ref a__law_fits) = true)
    (h1__law_pattern : PySem.W.nsIn K mainGlobals "_law_pattern" = some (some (.ref a__law_pattern)))
    (h2__law_pattern : K.lookup a__law_pattern = some ⟨oc__law_pattern, od__law_pattern, .func (PySem.W.fnOf "_law_pattern" "_law_pattern" (defArgs s__law_pattern) (defBody s__law_pattern) (defScope s__law_pattern) .none kV__law_pattern dc__law_pattern pm__law_pattern an__law_pattern cd__law_pattern ct__law_pattern), sl__law_pattern⟩)
    (h3__law_pattern : PySem.W.codeIn K cd__law_pattern "_law_pattern" = true)
    (h4__law_pattern : PySem.W.keepIn K (.ref a__law_pattern) = true)
    (h1__law_by_splits : PySem.W.nsIn K mainGlobals "_law_by_splits" = some (some (.ref a__law_by_splits)))
    (h2__law_by_splits : K.lookup a__law_by_splits = some ⟨oc__law_by_splits, od__law_by_splits, .func (PySem.W.fnOf "_law_by_splits" "_law_by_splits" (defArgs s__law_by_splits) (defBody s__law_by_splits) (defScope s__law_by_splits) .none kV__law_by_splits dc__law_by_splits pm__law_by_splits an__law_by_splits cd__law_by_splits ct__law_by_splits), sl__law_by_splits⟩)
    (h3__law_by_splits : PySem.W.codeIn K cd__law_by_splits "_law_by_splits" = true)
    (h4__law_by_splits : PySem.W.keepIn K (.ref a__law_by_splits) = true)
    (h1__law_word_of : PySem.W.nsIn K mainGlobals "_law_word_of" = some (some (.ref a__law_word_of)))
    (h2__law_word_of : K.lookup a__law_word_of = some ⟨oc__law_word_of, od__law_word_of, .func (PySem.W.fnOf "_law_word_of" "_law_word_of" (defArgs s__law_word_of) (defBody s__law_word_of) (defScope s__law_word_of) .none kV__law_word_of dc__law_word_of pm__law_word_of an__law_word_of cd__law_word_of ct__law_word_of), sl__law_word_of⟩)
    (h3__law_word_of : PySem.W.codeIn K cd__law_word_of "_law_word_of" = true)
    (h4__law_word_of : PySem.W.keepIn K (.ref a__law_word_of) = true)
    (h1__law_short_right : PySem.W.nsIn K mainGlobals "_law_short_right" = some (some (.ref a__law_short_right)))
    (h2__law_short_right : K.lookup a__law_short_right = some ⟨oc__law_short_right, od__law_short_right, .func (PySem.W.fnOf "_law_short_right" "_law_short_right" (defArgs s__law_short_right) (defBody s__law_short_right) (defScope s__law_short_right) .none kV__law_short_right dc__law_short_right pm__law_short_right an__law_short_right cd__law_short_right ct__law_short_right), sl__law_short_right⟩)
    (h3__law_short_right : PySem.W.codeIn K cd__law_short_right "_law_short_right" = true)
    (h4__law_short_right : PySem.W.keepIn K (.ref a__law_short_right) = true)
    (h1__law_long_right : PySem.W.nsIn K mainGlobals "_law_long_right" = some (some (.ref a__law_long_right)))
    (h2__law_long_right : K.lookup a__law_long_right = some ⟨oc__law_long_right, od__law_long_right, .func (PySem.W.fnOf "_law_long_right" "_law_long_right" (defArgs s__law_long_right) (defBody s__law_long_right) (defScope s__law_long_right) .none kV__law_long_right dc__law_long_right pm__law_long_right an__law_long_right cd__law_long_right ct__law_long_right), sl__law_long_right⟩)
    (h3__law_long_right : PySem.W.codeIn K cd__law_long_right "_law_long_right" = true)
    (h4__law_long_right : PySem.W.keepIn K (.ref a__law_long_right) = true)
    (h1__law_odd_right : PySem.W.nsIn K mainGlobals "_law_odd_right" = some (some (.ref a__law_odd_right)))
    (h2__law_odd_right : K.lookup a__law_odd_right = some ⟨oc__law_odd_right, od__law_odd_right, .func (PySem.W.fnOf "_law_odd_right" "_law_odd_right" (defArgs s__law_odd_right) (defBody s__law_odd_right) (defScope s__law_odd_right) .none kV__law_odd_right dc__law_odd_right pm__law_odd_right an__law_odd_right cd__law_odd_right ct__law_odd_right), sl__law_odd_right⟩)
    (h3__law_odd_right : PySem.W.codeIn K cd__law_odd_right "_law_odd_right" = true)
    (h4__law_odd_right : PySem.W.keepIn K (.ref a__law_odd_right) = true)
    (h1_law : PySem.W.nsIn K mainGlobals "law" = some (some (.ref a_law)))
    (h2_law : K.lookup a_law = some ⟨oc_law, od_law, .func (PySem.W.fnOf "law" "law" (defArgs s_law) (defBody s_law) (defScope s_law) .none kV_law dc_law pm_law an_law cd_law ct_law), sl_law⟩)
    (h3_law : PySem.W.codeIn K cd_law "law" = true)
    (h4_law : PySem.W.keepIn K (.ref a_law) = true)
    (m_InvalidText : PySem.W.nsIn K mainGlobals "InvalidText" = some (some (.ref c_InvalidText)))
    (x_InvalidText : PySem.W.excIn K c_InvalidText [.type "ValueError", .type "Exception", .type "BaseException", .type "object"] "ValueError.__new__" = true)
    (k_InvalidText : PySem.W.keepIn K (.ref c_InvalidText) = true)
    (b_InvalidText : PySem.W.subIn K (.ref c_InvalidText) (.type "BaseException") = some true)
    (t_InvalidText : PySem.W.typeIn K (.ref c_InvalidText) = some (.type "type"))
    (e_InvalidText : PySem.W.exmOne K (.ref c_InvalidText) (.ref c_InvalidText) = some true)
    (i_InvalidText : PySem.W.isClsIn K c_InvalidText = true)
    (m_DressError : PySem.W.nsIn K mainGlobals "DressError" = some (some (.ref c_DressError)))
    (x_DressError : PySem.W.excIn K c_DressError [.type "ValueError", .type "Exception", .type "BaseException", .type "object"] "ValueError.__new__" = true)
    (k_DressError : PySem.W.keepIn K (.ref c_DressError) = true)
    (b_DressError : PySem.W.subIn K (.ref c_DressError) (.type "BaseException") = some true)
    (t_DressError : PySem.W.typeIn K (.ref c_DressError) = some (.type "type"))
    (e_DressError : PySem.W.exmOne K (.ref c_DressError) (.ref c_DressError) = some true)
    (i_DressError : PySem.W.isClsIn K c_DressError = true)
    (m_SIGNS : PySem.W.nsIn K mainGlobals "SIGNS" = some (some (.str "#$0123:_abcdefg" t_SIGNS)))
    (m_MAX_PATH : PySem.W.nsIn K mainGlobals "MAX_PATH" = some (some (.int 12 t_MAX_PATH)))
    (m_ANY : PySem.W.nsIn K mainGlobals "ANY" = some (some (.str "*" t_ANY)))
    (m_ONE : PySem.W.nsIn K mainGlobals "ONE" = some (some (.str "?" t_ONE)))
    (n_len : PySem.W.nsIn K mainGlobals "len" = some none)
    (n_isinstance : PySem.W.nsIn K mainGlobals "isinstance" = some none)
    (n_all : PySem.W.nsIn K mainGlobals "all" = some none)
    (n_str : PySem.W.nsIn K mainGlobals "str" = some none)
    (n_int : PySem.W.nsIn K mainGlobals "int" = some none)
    (n_abs : PySem.W.nsIn K mainGlobals "abs" = some none)
    (n_max : PySem.W.nsIn K mainGlobals "max" = some none)
    (n_min : PySem.W.nsIn K mainGlobals "min" = some none)
    (n_range : PySem.W.nsIn K mainGlobals "range" = some none)
    (n_tuple : PySem.W.nsIn K mainGlobals "tuple" = some none)
    (n_list : PySem.W.nsIn K mainGlobals "list" = some none)
    (n_enumerate : PySem.W.nsIn K mainGlobals "enumerate" = some none)
    (n_sorted : PySem.W.nsIn K mainGlobals "sorted" = some none)
    (n_repr : PySem.W.nsIn K mainGlobals "repr" = some none)
    (hc__law_odd_right : cd__law_odd_right = .ref c__law_odd_right_)
    (hh__law_odd_right : PySem.W.codeHdIn K c__law_odd_right_ P__law_odd_right_ = true)
    (hn__law_odd_right : K.lookup P__law_odd_right_ = none)
    (ht__law_odd_right : h.get? P__law_odd_right_ = some { cls := .none, data := .fields #[] })
    : ∃ (fd : FuncData) (cs : List (Addr × Addr)) (sp : Sp), (∀ p ∈ cs, h.get? p.2 = some { cls := .none, data := .fields #[] }) ∧ (∀ p ∈ cs, K.lookup p.2 = none) ∧ (∀ p ∈ cs, PySem.W.CodeHd h p.1 p.2) ∧ (∀ (s : Shared) (u : Value), BindsTo s fd ⟨[u], []⟩ [("script", u)]) ∧
        (∀ (H : Hp) (a : Addr) (ns : List Int), ns.length ≤ 63 → (∀ p ∈ cs, H p.2 = some (.tbl #[])) → SqL K H a (ns.map V.int) → sp [.ref a] H (fun v _ => v = .bl true) fun _ _ _ => False) ∧
        ∀ base : Heap, K.In base → base.Ns mainGlobals mg → (∀ p ∈ cs, TabB base mg p.1 p.2) → FnG l.prog w K mg base CX0 20 fa fd ["script"] sp := by
  have e0 := hfa.symm.trans (PySem.W.mg_of X G h1_law)
  have e1 : a_law = fa := by cases e0; rfl
  subst e1
  have F_is_text := fun_mk (st := s_is_text) h2_is_text h3_is_text h4_is_text
  have B_is_text := F_is_text.binds (ps := ps_is_text) fun _ _ _ _ _ _ us hl => match us, hl with | [_], _ => rfl
  have F_is_path := fun_mk (st := s_is_path) h2_is_path h3_is_path h4_is_path
  have B_is_path := F_is_path.binds (ps := ps_is_path) fun _ _ _ _ _ _ us hl => match us, hl with | [_], _ => rfl
  have F_is_path_pattern := fun_mk (st := s_is_path_pattern) h2_is_path_pattern h3_is_path_pattern h4_is_path_pattern
  have B_is_path_pattern := F_is_path_pattern.binds (ps := ps_is_path_pattern) fun _ _ _ _ _ _ us hl => match us, hl with | [_], _ => rfl
  have F_require_path := fun_mk (st := s_require_path) h2_require_path h3_require_path h4_require_path
  have B_require_path := F_require_path.binds (ps := ps_require_path) fun _ _ _ _ _ _ us hl => match us, hl with | [_], _ => rfl
  have F_begun_places := fun_mk (st := s_begun_places) h2_begun_places h3_begun_places h4_begun_places
  have B_begun_places := F_begun_places.binds (ps := ps_begun_places) fun _ _ _ _ _ _ us hl => match us, hl with | [_], _ => rfl
  have F_later_places := fun_mk (st := s_later_places) h2_later_places h3_later_places h4_later_places
  have B_later_places := F_later_places.binds (ps := ps_later_places) fun _ _ _ _ _ _ us hl => match us, hl with | [_, _, _], _ => rfl
  have F_does_fit := fun_mk (st := s_does_fit) h2_does_fit h3_does_fit h4_does_fit
  have B_does_fit := F_does_fit.binds (ps := ps_does_fit) fun _ _ _ _ _ _ us hl => match us, hl with | [_, _], _ => rfl
  have F_fits := fun_mk (st := s_fits) h2_fits h3_fits h4_fits
  have B_fits := F_fits.binds (ps := ps_fits) fun _ _ _ _ _ _ us hl => match us, hl with | [_, _], _ => rfl
  have F__law_dice := fun_mk (st := s__law_dice) h2__law_dice h3__law_dice h4__law_dice
  have B__law_dice := F__law_dice.binds (ps := ps__law_dice) fun _ _ _ _ _ _ us hl => match us, hl with | [_, _], _ => rfl
  have F__law_roll := fun_mk (st := s__law_roll) h2__law_roll h3__law_roll h4__law_roll
  have B__law_roll := F__law_roll.binds (ps := ps__law_roll) fun _ _ _ _ _ _ us hl => match us, hl with | [_, _], _ => rfl
  have F__law_one_of := fun_mk (st := s__law_one_of) h2__law_one_of h3__law_one_of h4__law_one_of
  have B__law_one_of := F__law_one_of.binds (ps := ps__law_one_of) fun _ _ _ _ _ _ us hl => match us, hl with | [_, _], _ => rfl
  have F__law_mixed := fun_mk (st := s__law_mixed) h2__law_mixed h3__law_mixed h4__law_mixed
  have B__law_mixed := F__law_mixed.binds (ps := ps__law_mixed) fun _ _ _ _ _ _ us hl => match us, hl with | [_, _], _ => rfl
  have F__law_all_signs := fun_mk (st := s__law_all_signs) h2__law_all_signs h3__law_all_signs h4__law_all_signs
  have B__law_all_signs := F__law_all_signs.binds (ps := ps__law_all_signs) fun _ _ _ _ _ _ us hl => match us, hl with | [], _ => rfl
  have F__law_signs := fun_mk (st := s__law_signs) h2__law_signs h3__law_signs h4__law_signs
  have B__law_signs := F__law_signs.binds (ps := ps__law_signs) fun _ _ _ _ _ _ us hl => match us, hl with | [_, _], _ => rfl
  have F__law_texts := fun_mk (st := s__law_texts) h2__law_texts h3__law_texts h4__law_texts
  have B__law_texts := F__law_texts.binds (ps := ps__law_texts) fun _ _ _ _ _ _ us hl => match us, hl with | [_, _], _ => rfl
  have F__law_fits := fun_mk (st := s__law_fits) h2__law_fits h3__law_fits h4__law_fits
  have B__law_fits := F__law_fits.binds (ps := ps__law_fits) fun _ _ _ _ _ _ us hl => match us, hl with | [_, _], _ => rfl
  have F__law_pattern := fun_mk (st := s__law_pattern) h2__law_pattern h3__law_pattern h4__law_pattern
  have B__law_pattern := F__law_pattern.binds (ps := ps__law_pattern) fun _ _ _ _ _ _ us hl => match us, hl with | [_, _, _], _ => rfl
  have F__law_by_splits := fun_mk (st := s__law_by_splits) h2__law_by_splits h3__law_by_splits h4__law_by_splits
  have B__law_by_splits := F__law_by_splits.binds (ps := ps__law_by_splits) fun _ _ _ _ _ _ us hl => match us, hl with | [_, _], _ => rfl
  have F__law_word_of := fun_mk (st := s__law_word_of) h2__law_word_of h3__law_word_of h4__law_word_of
  have B__law_word_of := F__law_word_of.binds (ps := ps__law_word_of) fun _ _ _ _ _ _ us hl => match us, hl with | [_], _ => rfl
  have F__law_short_right := fun_mk (st := s__law_short_right) h2__law_short_right h3__law_short_right h4__law_short_right
  have B__law_short_right := F__law_short_right.binds (ps := ps__law_short_right) fun _ _ _ _ _ _ us hl => match us, hl with | [_, _], _ => rfl
  have F__law_long_right := fun_mk (st := s__law_long_right) h2__law_long_right h3__law_long_right h4__law_long_right
  have B__law_long_right := F__law_long_right.binds (ps := ps__law_long_right) fun _ _ _ _ _ _ us hl => match us, hl with | [_, _], _ => rfl
  have F__law_odd_right := fun_mk (st := s__law_odd_right) h2__law_odd_right h3__law_odd_right h4__law_odd_right
  have B__law_odd_right := F__law_odd_right.binds (ps := ps__law_odd_right) fun _ _ _ _ _ _ us hl => match us, hl with | [_, _], _ => rfl
  have F_law := fun_mk (st := s_law) h2_law h3_law h4_law
  have B_law := F_law.binds (ps := ps_law) fun _ _ _ _ _ _ us hl => match us, hl with | [_], _ => rfl
  let T : Tx K mg := ⟨a_is_text, _, F_is_text, B_is_text, PySem.W.mg_of X G h1_is_text,
    a_is_path, _, F_is_path, B_is_path, PySem.W.mg_of X G h1_is_path,
    a_is_path_pattern, _, F_is_path_pattern, B_is_path_pattern, PySem.W.mg_of X G h1_is_path_pattern,
    a_require_path, _, F_require_path, B_require_path, PySem.W.mg_of X G h1_require_path,
    a_begun_places, _, F_begun_places, B_begun_places, PySem.W.mg_of X G h1_begun_places,
    a_later_places, _, F_later_places, B_later_places, PySem.W.mg_of X G h1_later_places,
    a_does_fit, _, F_does_fit, B_does_fit, PySem.W.mg_of X G h1_does_fit,
    a_fits, _, F_fits, B_fits, PySem.W.mg_of X G h1_fits,
    a__law_dice, _, F__law_dice, B__law_dice, PySem.W.mg_of X G h1__law_dice,
    a__law_roll, _, F__law_roll, B__law_roll, PySem.W.mg_of X G h1__law_roll,
    a__law_one_of, _, F__law_one_of, B__law_one_of, PySem.W.mg_of X G h1__law_one_of,
    a__law_mixed, _, F__law_mixed, B__law_mixed, PySem.W.mg_of X G h1__law_mixed,
    a__law_all_signs, _, F__law_all_signs, B__law_all_signs, PySem.W.mg_of X G h1__law_all_signs,
    a__law_signs, _, F__law_signs, B__law_signs, PySem.W.mg_of X G h1__law_signs,
    a__law_texts, _, F__law_texts, B__law_texts, PySem.W.mg_of X G h1__law_texts,
    a__law_fits, _, F__law_fits, B__law_fits, PySem.W.mg_of X G h1__law_fits,
    a__law_pattern, _, F__law_pattern, B__law_pattern, PySem.W.mg_of X G h1__law_pattern,
    a__law_by_splits, _, F__law_by_splits, B__law_by_splits, PySem.W.mg_of X G h1__law_by_splits,
    a__law_word_of, _, F__law_word_of, B__law_word_of, PySem.W.mg_of X G h1__law_word_of,
    a__law_short_right, _, F__law_short_right, B__law_short_right, PySem.W.mg_of X G h1__law_short_right,
    a__law_long_right, _, F__law_long_right, B__law_long_right, PySem.W.mg_of X G h1__law_long_right,
    a__law_odd_right, _, F__law_odd_right, B__law_odd_right, PySem.W.mg_of X G h1__law_odd_right,
    a_law, _, F_law, B_law, PySem.W.mg_of X G h1_law,
    c_InvalidText, PySem.W.mg_of X G m_InvalidText, x_InvalidText, k_InvalidText, b_InvalidText, t_InvalidText, e_InvalidText, i_InvalidText,
    c_DressError, PySem.W.mg_of X G m_DressError, x_DressError, k_DressError, b_DressError, t_DressError, e_DressError, i_DressError,
    t_SIGNS, PySem.W.mg_of X G m_SIGNS,
    t_MAX_PATH, PySem.W.mg_of X G m_MAX_PATH,
    t_ANY, PySem.W.mg_of X G m_ANY,
    t_ONE, PySem.W.mg_of X G m_ONE,
    PySem.W.mg_none_of X G n_len,
    PySem.W.mg_none_of X G n_isinstance,
    PySem.W.mg_none_of X G n_all,
    PySem.W.mg_none_of X G n_str,
    PySem.W.mg_none_of X G n_int,
    PySem.W.mg_none_of X G n_abs,
    PySem.W.mg_none_of X G n_max,
    PySem.W.mg_none_of X G n_min,
    PySem.W.mg_none_of X G n_range,
    PySem.W.mg_none_of X G n_tuple,
    PySem.W.mg_none_of X G n_list,
    PySem.W.mg_none_of X G n_enumerate,
    PySem.W.mg_none_of X G n_sorted,
    PySem.W.mg_none_of X G n_repr⟩
  refine ⟨PySem.W.fnOf "law" "law" (defArgs s_law) (defBody s_law) (defScope s_law) .none kV_law dc_law pm_law an_law cd_law ct_law, [(c__law_odd_right_, P__law_odd_right_)], spLaw K (tabT P__law_odd_right_), fun p hp => ?_, fun p hp => ?_, fun p hp => ?_, fun s v => .of_eq rfl, fun H a ns hl ht hS => ?_, fun base _ _ TB => ?_⟩
  · rw [List.mem_singleton.mp hp]; exact ht__law_odd_right
  · rw [List.mem_singleton.mp hp]; exact hn__law_odd_right
  · rw [List.mem_singleton.mp hp]; exact PySem.W.codeHd_of_K X hh__law_odd_right
  · refine ⟨a, ns, rfl, by omega, hS, fun p hp => ?_, fun _ => rfl⟩
    rw [List.mem_singleton.mp hp]
    exact TabS.nil (ht _ (List.mem_singleton.mpr rfl))
  · exact ok_law T hc__law_odd_right (TB _ (List.mem_singleton.mpr rfl))
theorem walk {l : PySem.W.OpenLaw} {q : Program} {loose : List Str} {XP : (Str → Option Value) → Heap → Prop} {YP : World → Heap → Prop} {d : DefRec} {K : Params → PySem.W.Frag} (hn : l.most = some 63) (hdf : d.params.defaults = [])
    (hY : ∀ (w : World) (h : Heap), YP w h → (K w.params).In h)
    (F : ∀ (w : World) (mg : Str → Option Value) (fa : Addr) (h : Heap), YP w h → (K w.params).In h → h.Ns mainGlobals mg → mg d.name = some (.ref fa) →
      ∃ (fd : FuncData) (cs : List (Addr × Addr)) (sp : Sp), (∀ p ∈ cs, h.get? p.2 = some { cls := .none, data := .fields #[] }) ∧ (∀ p ∈ cs, (K w.params).lookup p.2 = none) ∧ (∀ p ∈ cs, PySem.W.CodeHd h p.1 p.2) ∧ (∀ (s : Shared) (u : Value), BindsTo s fd ⟨[u], []⟩ [("script", u)]) ∧
        (∀ (H : Hp) (a : Addr) (ns : List Int), ns.length ≤ 63 → (∀ p ∈ cs, H p.2 = some (.tbl #[])) → SqL (K w.params) H a (ns.map V.int) → sp [.ref a] H (fun v _ => v = .bl true) fun _ _ _ => False) ∧
        ∀ base : Heap, (K w.params).In base → base.Ns mainGlobals mg → (∀ p ∈ cs, TabB base mg p.1 p.2) → FnG l.prog w (K w.params) mg base CX0 20 fa fd ["script"] sp) :
    PySem.W.WalkO q loose XP YP l.row.toRowW d [] (fun f vs => PySem.call f vs) :=
  walk_ofTG (n := 63) (k := 20) (x := "script") hn (by decide) hdf ⟨rfl, by decide, by decide⟩ hY F
end My
open PySem PySem.W PyProof.Rows
set_option maxRecDepth 100000 in
set_option maxHeartbeats 0 in
theorem PySem.Challenge.cw_cleandress_k54_patterns_of_paths_holds : PySem.Challenge.rw_cleandress_k54_patterns_of_paths.Holds := by
  w_on; o_law; k_head; (case hw => w_witness2)
  k_fill
  refine My.walk (l := PySem.Challenge.rw_cleandress_k54_patterns_of_paths) rfl rfl (fun w h Y => PySem.W.km_in_of Y) ?F
  case F =>
    intro w mg fa h Y KX G hmg
    have hT8 := PySem.W.km_tabs_of Y
    refine' My.all_mk (P__law_odd_right_ := 174) KX G hmg ?h1_is_text ?h2_is_text ?h3_is_text ?h4_is_text ?h1_is_path ?h2_is_path ?h3_is_path ?h4_is_path ?h1_is_path_pattern ?h2_is_path_pattern ?h3_is_path_pattern ?h4_is_path_pattern ?h1_require_path ?h2_require_path ?h3_require_path ?h4_require_path ?h1_begun_places ?h2_begun_places ?h3_begun_places ?h4_begun_places ?h1_later_places ?h2_later_places ?h3_later_places ?h4_later_places ?h1_does_fit ?h2_does_fit ?h3_does_fit ?h4_does_fit ?h1_fits ?h2_fits ?h3_fits ?h4_fits ?h1__law_dice ?h2__law_dice ?h3__law_dice ?h4__law_dice ?h1__law_roll ?h2__law_roll ?h3__law_roll ?h4__law_roll ?h1__law_one_of ?h2__law_one_of ?h3__law_one_of ?h4__law_one_of ?h1__law_mixed ?h2__law_mixed ?h3__law_mixed ?h4__law_mixed ?h1__law_all_signs ?h2__law_all_signs ?h3__law_all_signs ?h4__law_all_signs ?h1__law_signs ?h2__law_signs ?h3__law_signs ?h4__law_signs ?h1__law_texts ?h2__law_texts ?h3__law_texts ?h4__law_texts ?h1__law_fits ?h2__law_fits ?h3__law_fits ?h4__law_fits ?h1__law_pattern ?h2__law_pattern ?h3__law_pattern ?h4__law_pattern ?h1__law_by_splits ?h2__law_by_splits ?h3__law_by_splits ?h4__law_by_splits ?h1__law_word_of ?h2__law_word_of ?h3__law_word_of ?h4__law_word_of ?h1__law_short_right ?h2__law_short_right ?h3__law_short_right ?h4__law_short_right ?h1__law_long_right ?h2__law_long_right ?h3__law_long_right ?h4__law_long_right ?h1__law_odd_right ?h2__law_odd_right ?h3__law_odd_right ?h4__law_odd_right ?h1_law ?h2_law ?h3_law ?h4_law ?m_InvalidText ?x_InvalidText ?k_InvalidText ?b_InvalidText ?t_InvalidText ?e_InvalidText ?i_InvalidText ?m_DressError ?x_DressError ?k_DressError ?b_DressError ?t_DressError ?e_DressError ?i_DressError ?m_SIGNS ?m_MAX_PATH ?m_ANY ?m_ONE ?n_len ?n_isinstance ?n_all ?n_str ?n_int ?n_abs ?n_max ?n_min ?n_range ?n_tuple ?n_list ?n_enumerate ?n_sorted ?n_repr ?hc__law_odd_right ?hh__law_odd_right ?hn__law_odd_right ?ht__law_odd_right
    (case h1_is_text => k_is)
    (case h2_is_text => k_is)
    (case h3_is_text => k_is)
    (case h4_is_text => k_is)
    (case h1_is_path => k_is)
    (case h2_is_path => k_is)
    (case h3_is_path => k_is)
    (case h4_is_path => k_is)
    (case h1_is_path_pattern => k_is)
    (case h2_is_path_pattern => k_is)
    (case h3_is_path_pattern => k_is)
    (case h4_is_path_pattern => k_is)
    (case h1_require_path => k_is)
    (case h2_require_path => k_is)
    (case h3_require_path => k_is)
    (case h4_require_path => k_is)
    (case h1_begun_places => k_is)
    (case h2_begun_places => k_is)
    (case h3_begun_places => k_is)
    (case h4_begun_places => k_is)
    (case h1_later_places => k_is)
    (case h2_later_places => k_is)
    (case h3_later_places => k_is)
    (case h4_later_places => k_is)
    (case h1_does_fit => k_is)
    (case h2_does_fit => k_is)
    (case h3_does_fit => k_is)
    (case h4_does_fit => k_is)
    (case h1_fits => k_is)
    (case h2_fits => k_is)
    (case h3_fits => k_is)
    (case h4_fits => k_is)
    (case h1__law_dice => k_is)
    (case h2__law_dice => k_is)
    (case h3__law_dice => k_is)
    (case h4__law_dice => k_is)
    (case h1__law_roll => k_is)
    (case h2__law_roll => k_is)
    (case h3__law_roll => k_is)
    (case h4__law_roll => k_is)
    (case h1__law_one_of => k_is)
    (case h2__law_one_of => k_is)
    (case h3__law_one_of => k_is)
    (case h4__law_one_of => k_is)
    (case h1__law_mixed => k_is)
    (case h2__law_mixed => k_is)
    (case h3__law_mixed => k_is)
    (case h4__law_mixed => k_is)
    (case h1__law_all_signs => k_is)
    (case h2__law_all_signs => k_is)
    (case h3__law_all_signs => k_is)
    (case h4__law_all_signs => k_is)
    (case h1__law_signs => k_is)
    (case h2__law_signs => k_is)
    (case h3__law_signs => k_is)
    (case h4__law_signs => k_is)
    (case h1__law_texts => k_is)
    (case h2__law_texts => k_is)
    (case h3__law_texts => k_is)
    (case h4__law_texts => k_is)
    (case h1__law_fits => k_is)
    (case h2__law_fits => k_is)
    (case h3__law_fits => k_is)
    (case h4__law_fits => k_is)
    (case h1__law_pattern => k_is)
    (case h2__law_pattern => k_is)
    (case h3__law_pattern => k_is)
    (case h4__law_pattern => k_is)
    (case h1__law_by_splits => k_is)
    (case h2__law_by_splits => k_is)
    (case h3__law_by_splits => k_is)
    (case h4__law_by_splits => k_is)
    (case h1__law_word_of => k_is)
    (case h2__law_word_of => k_is)
    (case h3__law_word_of => k_is)
    (case h4__law_word_of => k_is)
    (case h1__law_short_right => k_is)
    (case h2__law_short_right => k_is)
    (case h3__law_short_right => k_is)
    (case h4__law_short_right => k_is)
    (case h1__law_long_right => k_is)
    (case h2__law_long_right => k_is)
    (case h3__law_long_right => k_is)
    (case h4__law_long_right => k_is)
    (case h1__law_odd_right => k_is)
    (case h2__law_odd_right => k_is)
    (case h3__law_odd_right => k_is)
    (case h4__law_odd_right => k_is)
    (case h1_law => k_is)
    (case h2_law => k_is)
    (case h3_law => k_is)
    (case h4_law => k_is)
    (case m_InvalidText => k_is)
    (case x_InvalidText => k_exc)
    (case k_InvalidText => k_is)
    (case b_InvalidText => k_is)
    (case t_InvalidText => k_is)
    (case e_InvalidText => kernel_rfl)
    (case i_InvalidText => k_is)
    (case m_DressError => k_is)
    (case x_DressError => k_exc)
    (case k_DressError => k_is)
    (case b_DressError => k_is)
    (case t_DressError => k_is)
    (case e_DressError => kernel_rfl)
    (case i_DressError => k_is)
    (case m_SIGNS => k_is)
    (case m_MAX_PATH => k_is)
    (case m_ANY => k_is)
    (case m_ONE => k_is)
    (case n_len => k_is)
    (case n_isinstance => k_is)
    (case n_all => k_is)
    (case n_str => k_is)
    (case n_int => k_is)
    (case n_abs => k_is)
    (case n_max => k_is)
    (case n_min => k_is)
    (case n_range => k_is)
    (case n_tuple => k_is)
    (case n_list => k_is)
    (case n_enumerate => k_is)
    (case n_sorted => k_is)
    (case n_repr => k_is)
    (case hc__law_odd_right => exact rfl)
    (case hh__law_odd_right => kernel_rfl)
    (case hn__law_odd_right => kernel_rfl)
    (case ht__law_odd_right => exact hT8 174 (List.mem_singleton.mpr rfl))
