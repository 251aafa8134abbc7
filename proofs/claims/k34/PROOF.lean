import PyProof.Rows.All
import Wide.All
import OpenK.AllK
import Wide.FinOn
import HandS.ForMost
import HandS.Codes
import HandS.Conv
import HandS.TupAny
import HandS.TupLe
import HandS.IsInst
import HandS.Flt
import KE.GoesEnum
import KE.GoesMore
import KE.KExcSuper
import HandS.Nested
import HandS.ExcInit
import HandS.ForExc
import HandS.ExcField
import HandS.ExcIs
import KE.KExcIs
import KE.KDictDisplayH
import HandS.More
import HandS.Zip
import HandS.StrMore
import HandS.Walk
import PySem.Challenge.RW_tellwork_k34_whole_lexicons
import HandS.Small
import KE.RegKSuper
set_option Elab.async false
set_option linter.all false
set_option maxRecDepth 100000
set_option maxHeartbeats 4000000
namespace Tw
open PySem PySem.Spec PyProof.Rows L2

/-! ### texts as lists -/
abbrev S (l : List Nat) : Str := ⟨l.toArray⟩
theorem S_len (l : List Nat) : (S l).length = l.length := by show l.toArray.size = _; simp
theorem S_cps (l : List Nat) : (S l).cps.toList = l := rfl
theorem S_add (a b : List Nat) : S a ++ S b = S (a ++ b) := by
  show (⟨a.toArray ++ b.toArray⟩ : Str) = ⟨(a ++ b).toArray⟩
  simp
theorem S_inj {a b : List Nat} : S a = S b ↔ a = b := by
  constructor
  · intro h
    have := congrArg (fun z : Str => z.cps.toList) h
    simpa using this
  · rintro rfl; rfl
theorem S_of (z : Str) : z = S z.cps.toList := by cases z; simp
theorem S_cut (l : List Nat) (lo hi : Option Int) : cutS (S l) lo hi = S ((l.drop (HT.sIx l.length 0 lo)).take (HT.sIx l.length l.length hi - HT.sIx l.length 0 lo)) := by
  unfold cutS
  rw [S_len]

theorem cut_to (l : List Nat) (k : Nat) : cutS (S l) none (some (k : Int)) = S (l.take k) := by
  rw [S_cut, HT.sIx_none, HT.sIx_nat, List.drop_zero, Nat.sub_zero]
  rcases Nat.le_total k l.length with h | h
  · rw [Nat.min_eq_left h]
  · rw [Nat.min_eq_right h, List.take_of_length_le (Nat.le_refl _), List.take_of_length_le h]
theorem cut_from (l : List Nat) (k : Nat) : cutS (S l) (some (k : Int)) none = S (l.drop k) := by
  rw [S_cut, HT.sIx_none, HT.sIx_nat]
  rcases Nat.le_total k l.length with h | h
  · rw [Nat.min_eq_left h, List.take_of_length_le (by rw [List.length_drop]; exact Nat.le_refl _)]
  · rw [Nat.min_eq_right h, List.drop_of_length_le (Nat.le_refl _), List.drop_of_length_le h, List.take_nil]
theorem S_add1 (l : List Nat) (c : Nat) : S l ++ (⟨#[c]⟩ : Str) = S (l ++ [c]) := S_add l [c]
theorem szL {n : Nat} (h : n ≤ 100000) : n ≤ sizeLine := Nat.le_trans h (by decide)
theorem szl {n : Nat} (h : n < 100000) : n < sizeLine := Nat.lt_of_lt_of_le h (by decide)

/-! ### rules that the layer lacks -/
section
variable {X : Cx}
theorem call_min3 (hc : X.calm = true) : CallR X (.builtin "min") (fun xs H Q => ∃ i j k : Int, xs = [.int i, .int j, .int k] ∧ Q (.int (min (min i j) k)) H) := by
  intro pins s σ H xs us Q I r h
  obtain ⟨i, j, k, rfl, q⟩ := h
  refine call_min3Nu hc pins s σ H _ us Q I r ⟨.int i, .int j, .int k, .int (min (min i j) k), rfl, ?_, q⟩
  have e1 : nuMin2 (.int i) (.int j) = some (.int (min i j)) := by
    show (some (decide (j < i))).map (fun c => if c = true then V.int j else V.int i) = _
    by_cases h : j < i
    · simp [h, Int.min_eq_right (Int.le_of_lt h)]
    · simp [h, Int.min_eq_left (Int.not_lt.mp h)]
  show (nuMin2 (.int i) (.int j)).bind (fun m => nuMin2 m (.int k)) = _
  rw [e1]
  show (some (decide (k < min i j))).map (fun c => if c = true then V.int k else V.int (min i j)) = _
  by_cases h : k < min i j
  · simp only [h, decide_true, Option.map_some, if_true, Int.min_eq_right (Int.le_of_lt h)]
  · simp only [h, decide_false, Option.map_some, Bool.false_eq_true, if_false, Int.min_eq_left (Int.not_lt.mp h)]
theorem call_min2' (hc : X.calm = true) : CallR X (.builtin "min") (fun xs H Q => ∃ i j : Int, xs = [.int i, .int j] ∧ Q (.int (min i j)) H) := by
  intro pins s σ H xs us Q I r h
  obtain ⟨i, j, rfl, q⟩ := h
  refine call_min2 hc pins s σ H _ us Q I r ⟨i, j, rfl, ?_⟩
  by_cases h : j < i
  · rw [if_pos h]; rw [Int.min_eq_right (Int.le_of_lt h)] at q; exact q
  · rw [if_neg h]; rw [Int.min_eq_left (Int.not_lt.mp h)] at q; exact q
theorem call_max2' (hc : X.calm = true) : CallR X (.builtin "max") (fun xs H Q => ∃ i j : Int, xs = [.int i, .int j] ∧ Q (.int (max i j)) H) := by
  intro pins s σ H xs us Q I r h
  obtain ⟨i, j, rfl, q⟩ := h
  refine call_max2 hc pins s σ H _ us Q I r ⟨i, j, rfl, ?_⟩
  by_cases h : j > i
  · rw [if_pos h]; rw [Int.max_eq_right (Int.le_of_lt h)] at q; exact q
  · rw [if_neg h]; rw [Int.max_eq_left (Int.not_lt.mp h)] at q; exact q
/-- s * n of a text of one sign -/
theorem op_mul_str : OpR X (binaryOp .Mult) (fun x y H Q => ∃ (c : Nat) (n : Nat), x = .str (S [c]) ∧ y = .int (n : Int) ∧ 2 ≤ n ∧ n ≤ 1000 ∧ Q (.str (S (List.replicate n c))) H) := by
  intro pins s σ H x y v u Q I rx ry h
  obtain ⟨c, n, rfl, rfl, h1, h2, q⟩ := h
  obtain ⟨t, rfl⟩ := rx
  obtain ⟨t', rfl⟩ := ry
  have hl : (S [c]).length = 1 := S_len _
  have e : (List.replicate n (#[c] : Array Nat)).foldl (· ++ ·) #[] = (List.replicate n c).toArray := by
    have g : ∀ (n : Nat) (a : Array Nat), (List.replicate n (#[c] : Array Nat)).foldl (· ++ ·) a = a ++ (List.replicate n c).toArray := by
      intro n
      induction n with
      | zero => intro a; simp
      | succ n ih =>
        intro a
        rw [List.replicate_succ, List.foldl_cons, ih]
        apply Array.toList_inj.mp
        simp [List.replicate_succ]
    rw [g]
    apply Array.toList_inj.mp
    simp
  refine PySem.P.mul_str (by
      have a : ¬ ((n : Int) < -(2 ^ 63 : Int)) := by omega
      have b : ¬ ((n : Int) ≥ 2 ^ 63) := by omega
      rw [decide_eq_false a, decide_eq_false b]; rfl) (fun _ _ => ?_) (fun _ _ => ?_) ?_
  · rw [hl]
    have : (1 : Int) ≤ (2 ^ 63 - 1) / (n : Int) := by
      rw [Int.le_ediv_iff_mul_le (by omega)]
      omega
    omega
  · rw [hl]
    have e3 : 1 * (n : Int).toNat = n := by omega
    rw [e3]
    exact decide_eq_false (Nat.not_lt.mpr (szL (by omega)))
  · rw [if_neg (by omega)]
    have g : ((n : Int) == 1 || (S [c]).length == 0) = false := by
      rw [hl]
      have : ((n : Int) == 1) = false := by
        rw [beq_eq_false_iff_ne]; omega
      rw [this]; rfl
    rw [if_neg (by rw [g]; exact Bool.false_ne_true)]
    rw [show (List.replicate (n : Int).toNat (S [c]).cps) = List.replicate n (#[c] : Array Nat) by rw [Int.toNat_natCast], e]
    refine ⟨?_, .str _, H, I.tok _, ⟨_, rfl⟩, q⟩
    show (List.replicate n c).toArray.size ≤ sizeLine
    rw [List.size_toArray, List.length_replicate]
    exact szL (by omega)
end
/-! ### enumerate(text, k), enumerate(list, k) -/
def ItsC (x : Str) (k : Int) : It :=
  ⟨fun i _ => i < x.cps.size, fun i H v H' => ∃ T c, v = .ref T ∧ H T = none ∧ x.cps[i]? = some c ∧ H' = upd H T (.tup [.int (k + (i : Nat)), .str ⟨#[c]⟩]), fun i _ => i = x.cps.size⟩
def IteC (K : PySem.W.Frag) (a : Addr) (k : Int) : It :=
  ⟨fun i H => ∃ (xs : List V) (x : V), SqL K H a xs ∧ xs[i]? = some x, fun i H v H' => ∃ T x, v = .ref T ∧ H T = none ∧ H' = upd H T (.tup [.int (k + (i : Nat)), x]) ∧ ∀ xs, SqL K H a xs → xs[i]? = some x, fun i H => ∃ xs : List V, SqL K H a xs ∧ xs.length = i⟩
section
variable {X : Cx}
/-- one turn, whatever is drawn -/
theorem enum_turn {elts : List Expr} {kk : Nat} {tpos : Pos} {pins : List (Addr × Obj)} {s : Shared} {σ : L2.St} {H : Hp} {E : Value → Shared → Prop} {e it : Addr} {fp fq : List Addr} {n i : Nat} {k : Int} {Pd : Nat → Value → Prop} {Sd : Nat → Heap → Prop} {old : Value}
    {yld : V → Hp → Prop} {tn : Heap → Prop} (I : Inv X pins σ H s) (D : Draws X.prog X.w X.A.in1 it fp n Pd Sd) (he : IsEnum s.heap e it (k + (i : Int)) old) (hst : Sd i s.heap) (hlt : i < n) (hne : e ≠ it) (hef : e ∉ fp)
    (hfq : ∀ b, b ∈ fq ↔ b = e ∨ b = it) (hf : ∀ b ∈ fq, FpOk X pins H b) (hil : it < s.heap.objs.size)
    (hy : ∀ u, Pd i u → ∃ x, RelV x u ∧ ∀ T, H T = none → yld (.ref T) (upd H T (.tup [.int (k + (i : Int)), x])))
    (ht : ∀ h', (∃ x, IsEnum h' e it (k + ((i + 1 : Nat) : Int)) x) → Sd (i + 1) h' → tn h') (hfr : ∀ h1 h2, Sd (i + 1) h1 → (∀ b o, b ≠ e → h1.get? b = some o → h2.get? b = some o) → Sd (i + 1) h2) :
    wpAny (model X.prog X.w) X.A (pyNext (.ref e)) (fun r s1 => ∃ u, r = some u ∧
      wpAny (model X.prog X.w) X.A (letOwnedTupleGo (.Tuple elts kk tpos) (.ref e) u) (fun _ s2 => ∃ x H', Inv X pins σ H' s2 ∧ RelV x u ∧ yld x H' ∧ tn s2.heap ∧ ∀ b ∈ fq, H' b = none) E s1) E s := by
  have hel : e < s.heap.objs.size := Heap.lt_size he
  refine wpAny_pyNext_enum_itemC D he hst hlt hne hef fun u h' tk hP ho hst' hT hsz hk => ?_
  obtain ⟨x, ru, hyx⟩ := hy u hP
  refine ⟨_, rfl, wpAny_letOwnedTupleGo_enum (s := { s with heap := h', toks := tk + 1 }) ho fun h'' he' sb => ?_⟩
  have hT2 : h''.get? s.heap.objs.size = some { cls := .type "tuple", data := .seq #[.int (k + (i : Int)) tk, u] } := (sb.2 _ (Nat.ne_of_gt hel)).trans hT
  have new : ObjOk X.prog X.w (upd H s.heap.objs.size (.tup [.int (k + (i : Int)), x])) h'' s.heap.objs.size (.tup [.int (k + (i : Int)), x]) :=
    ⟨by show 2 ≤ sizeLine; decide, [.int (k + (i : Int)) tk, u], .cons ⟨_, rfl⟩ (.cons ru .nil), ⟨_, hT2, rfl, _, rfl⟩⟩
  have I1 : Inv X pins σ (upd H s.heap.objs.size (.tup [.int (k + (i : Int)), x])) { s with heap := h'', toks := tk + 1 } :=
    I.turnedNew (ch := fq) (fun b ob hb q => (sb.2 b (fun z => hb ((hfq b).mpr (.inl z)))).trans (hk b ob (fun z => hb ((hfq b).mpr (.inl z))) (fun z => hb ((hfq b).mpr (.inr z))) q)) hf (Nat.le_refl _) new
  have hn : H s.heap.objs.size = none := I.hok.fresh (Nat.le_refl _)
  refine ⟨.ref s.heap.objs.size, _, I1, rfl, hyx _ hn, ht h'' ⟨u, ?_⟩ (hfr h' h'' hst' fun b o hb q => (sb.2 b hb).trans q), fun b hb => ?_⟩
  · have e1 : k + ((i + 1 : Nat) : Int) = k + (i : Int) + 1 := by omega
    rw [e1]; exact he'
  · have hb' : b < s.heap.objs.size := by
      rcases (hfq b).mp hb with z | z
      · rw [z]; exact hel
      · rw [z]; exact hil
    rw [upd_ne (Nat.ne_of_lt hb')]
    exact (hf b hb).1
theorem turn_enumS {P : Program} {w : World} {K : PySem.W.Frag} {elts : List Expr} {kk : Nat} {tpos : Pos} (x : Str) (t : Tok) (k : Int) (e it : Addr) :
    Turn P w K (.Tuple elts kk tpos) (ItsC x k) [e, it] e (fun i h => (∃ old, IsEnum h e it (k + ((i : Nat) : Int)) old) ∧ h.IsStrIter it (strIterType x) x t i ∧ e ≠ it) where
  mem := by simp
  obj := fun i h st b hb => by
    obtain ⟨⟨old, he⟩, ⟨o, ho, hc, hd⟩, _⟩ := st
    have e' : b = e ∨ b = it := by simpa using hb
    rcases e' with z | z
    · rw [z]; exact ⟨_, he, fun v q => nomatch q⟩
    · rw [z]; exact ⟨o, ho, fun v q => by rw [hd] at q; cases q⟩
  keep := fun i h h' st k => let ⟨⟨old, he⟩, ⟨o, ho, r⟩, hne⟩ := st; ⟨⟨old, k e (by simp) _ he⟩, ⟨o, k it (by simp) o ho, r⟩, hne⟩
  item := by
    intro X hP hw hK hc i pins s σ H E I hf st hg
    subst hP hw hK
    obtain ⟨⟨old, he⟩, hit, hne⟩ := st
    have hil : it < s.heap.objs.size := by obtain ⟨_, q, _⟩ := hit; exact Heap.lt_size q
    refine enum_turn (fq := [e, it]) (fp := [it]) (n := x.cps.size) (Pd := fun i v => ∃ c u, x.cps[i]? = some c ∧ v = .str ⟨#[c]⟩ u) (Sd := fun i h => h.IsStrIter it (strIterType x) x t i) (yld := (ItsC x k).yld i H) (tn := fun h => (∃ old, IsEnum h e it (k + ((i + 1 : Nat) : Int)) old) ∧ h.IsStrIter it (strIterType x) x t (i + 1) ∧ e ≠ it) I (Draws.text (A := X.A.in1) (I.ok.hd hc) it x t) he hit hg hne (by simpa using hne) (fun b => by simp) hf hil (fun u hu => ?_) (fun h' a b => ⟨a, b, hne⟩) (fun h1 h2 ⟨o, ho, r⟩ hk => ⟨o, hk it o (Ne.symm hne) ho, r⟩)
    obtain ⟨c, u', hcx, rfl⟩ := hu
    exact ⟨.str ⟨#[c]⟩, ⟨_, rfl⟩, fun T hT => ⟨T, c, rfl, hT, hcx, rfl⟩⟩
  done := by
    intro X hP hw hK hc i pins s σ H E I hf st hg
    subst hP hw hK
    obtain ⟨⟨old, he⟩, hit, hne⟩ := st
    obtain ⟨f0, f1, f2, f3, f4, f5⟩ := hf it (by simp)
    obtain rfl : i = x.cps.size := hg
    exact wpAny_pyNext_enum_endD (Draws.text (prog := X.prog) (w := X.w) (A := X.A.in1) (I.ok.hd hc) it x t) he hit fun h' eb => ⟨rfl, I.turned (t' := s.toks) (fun b o hb q => eb b o hb q) f0 f1 f3 f4 f5⟩
  self := fun A i s Q E st h => let ⟨⟨_, he⟩, _⟩ := st; wpAny_pyIter_enum he h
theorem turn_enumL {P : Program} {w : World} {K : PySem.W.Frag} {elts : List Expr} {kk : Nat} {tpos : Pos} (a : Addr) (k : Int) (e it : Addr) :
    Turn P w K (.Tuple elts kk tpos) (IteC K a k) [e, it] e (fun i h => (∃ old, IsEnum h e it (k + ((i : Nat) : Int)) old) ∧ h.IsListIter it a i ∧ e ≠ it ∧ a ≠ it ∧ a ≠ e) where
  mem := by simp
  obj := fun i h st b hb => by
    obtain ⟨⟨old, he⟩, ⟨o, ho, hc, hd⟩, _⟩ := st
    have e' : b = e ∨ b = it := by simpa using hb
    rcases e' with z | z
    · rw [z]; exact ⟨_, he, fun v q => nomatch q⟩
    · rw [z]; exact ⟨o, ho, fun v q => by rw [hd] at q; cases q⟩
  keep := fun i h h' st k => let ⟨⟨old, he⟩, hi, hne⟩ := st; ⟨⟨old, k e (by simp) _ he⟩, hi.at fun o q => k it (by simp) o q, hne⟩
  item := by
    intro X hP hw hK hc i pins s σ H E I hf st hg
    subst hP hw hK
    obtain ⟨⟨old, he⟩, hit, hne, hai, hae⟩ := st
    obtain ⟨xs, x, hq, hx⟩ := hg
    obtain ⟨its, rv, p, hz⟩ := I.list hq
    obtain ⟨u, hu, ru⟩ := rv.get hx
    have hil : it < s.heap.objs.size := by obtain ⟨_, q, _⟩ := hit; exact Heap.lt_size q
    have hsz : its.length = xs.length := rv.length.symm
    have hi : i < its.toArray.size := by
      have := (List.getElem?_eq_some_iff.mp hx).1
      simp; omega
    refine enum_turn (fq := [e, it]) (fp := [it, a]) (n := its.toArray.size) (Pd := fun i v => its.toArray[i]? = some v) (Sd := fun i h => h.IsListIter it a i ∧ h.IsList a its.toArray) (yld := (IteC X.K a k).yld i H) (tn := fun h => (∃ old, IsEnum h e it (k + ((i + 1 : Nat) : Int)) old) ∧ h.IsListIter it a (i + 1) ∧ e ≠ it ∧ a ≠ it ∧ a ≠ e) I (Draws.list (A := X.A.in1) (I.ok.hd hc) it a hai its.toArray) he ⟨hit, p.isList⟩ hi hne (by simp [hne, Ne.symm hae]) (fun b => by simp) hf hil
      (fun u' hu' => ?_) (fun h' q b => ⟨q, b.1, hne, hai, hae⟩) (fun h1 h2 b hk => ⟨b.1.at fun o q => hk it o (Ne.symm hne) q, b.2.at fun o q => hk a o hae q⟩)
    have eu : u' = u := by
      have : its[i]? = some u' := by simpa using hu'
      rw [hu] at this
      exact (Option.some.inj this).symm
    subst eu
    exact ⟨x, ru, fun T hT => ⟨T, x, rfl, hT, rfl, fun ys hy => by rw [I.list_inj hy hq]; exact hx⟩⟩
  done := by
    intro X hP hw hK hc i pins s σ H E I hf st hg
    subst hP hw hK
    obtain ⟨⟨old, he⟩, hit, hne, hai, hae⟩ := st
    obtain ⟨xs, hq, hx⟩ := hg
    obtain ⟨its, rv, p, hz⟩ := I.list hq
    obtain ⟨f0, f1, f2, f3, f4, f5⟩ := hf it (by simp)
    have hsz : i = its.toArray.size := by
      have := rv.length
      simp; omega
    subst hsz
    exact wpAny_pyNext_enum_endD (Draws.list (prog := X.prog) (w := X.w) (A := X.A.in1) (I.ok.hd hc) it a hai its.toArray) he ⟨hit, p.isList⟩ fun h' eb => ⟨rfl, I.turned (t' := s.toks) (fun b o hb q => eb b o hb q) f0 f1 f3 f4 f5⟩
  self := fun A i s Q E st h => let ⟨⟨_, he⟩, _⟩ := st; wpAny_pyIter_enum he h
/-- enumerate(v, k) of a text or a list -/
def iEnumC (K : PySem.W.Frag) (ta : TA) : TI := fun σ H R => ta σ H fun vs H1 => ∃ (v : V) (k : Int), vs = [v, .int k] ∧ (0 ≤ k ∧ k ≤ 1000) ∧ ((∃ x, v = .str x ∧ R (ItsC x k) H1) ∨ ∃ a xs, v = .ref a ∧ SqL K H1 a xs ∧ R (IteC K a k) H1)
theorem pi_enumC {e e2 : Expr} {ta : TA} {p pos tpos : Pos} {elts : List Expr} {kk : Nat} (hg : Gl X "enumerate") (hm : X.mg "enumerate" = none) (ha : PA X [e, e2] ta)
    (hs : starEach [e, e2] X.env = (false, eval e X.env) :: starEach [e2] X.env := by rfl) (hpl : (backTo pos (starEach [e2] X.env)).any (·.1) = false := by rfl) :
    PI X (.Tuple elts kk tpos) (.Call (.Name "enumerate" p) [e, e2] [] pos) (iEnumC X.K ta) := by
  refine ⟨fun pins s σ H R I h => ?_⟩
  refine Call_ (ld_blt I hg hm boot_enumerate (PyProof.Rows.callWith_type1 (thn (ha.run pos pins s σ H _ I h) fun us s1 ⟨vs, H1, I1, r1, q1⟩ => ?_) hs hpl))
  obtain ⟨v, k, ex, ⟨k0, k1⟩, q⟩ := q1
  subst ex
  obtain ⟨u, u', rfl, rv, t, rfl⟩ := vals2 r1
  have fin : ∀ b : Addr, b = s1.heap.objs.size + 1 ∨ b = s1.heap.objs.size → FpOk X pins H1 b := fun b e' => by
    have hle : s1.heap.objs.size ≤ b := by
      rcases e' with z | z
      · rw [z]; exact Nat.le_add_right _ _
      · rw [z]; exact Nat.le_refl _
    exact I1.fpOk hle (I1.hok.fresh hle)
  rcases q with ⟨x, rfl, q⟩ | ⟨a, xs, rfl, hq, q⟩
  · obtain ⟨tx, rfl⟩ := rv
    refine enum_begins (begins_text x tx) trivial (by omega) (by omega) fun h' he hit hsz hk => wpAny_pyIter_enum he ?_
    have I2 : Inv X pins σ H1 { s1 with heap := h' } := I1.kept (t' := s1.toks) hk
    refine ⟨s1.heap.objs.size + 1, [s1.heap.objs.size + 1, s1.heap.objs.size], _, _, H1, rfl, I2, turn_enumS x tx k (s1.heap.objs.size + 1) s1.heap.objs.size, ⟨⟨.none, by simpa using he⟩, ⟨_, hit, rfl, rfl⟩, Nat.succ_ne_self _⟩, fun b hb => fin b (by simpa using hb), q⟩
  · cases rv
    obtain ⟨its, rv', p', hz⟩ := I1.list hq
    refine enum_begins (begins_list a its.toArray) p'.isList (by omega) (by omega) fun h' he hit hsz hk => wpAny_pyIter_enum he ?_
    have I2 : Inv X pins σ H1 { s1 with heap := h' } := I1.kept (t' := s1.toks) hk
    have hal : a < s1.heap.objs.size := by
      obtain ⟨o, ho, _⟩ := p'.isList
      exact Heap.lt_size ho
    refine ⟨s1.heap.objs.size + 1, [s1.heap.objs.size + 1, s1.heap.objs.size], _, _, H1, rfl, I2, turn_enumL a k (s1.heap.objs.size + 1) s1.heap.objs.size, ⟨⟨.none, by simpa using he⟩, ⟨_, hit, rfl, rfl⟩, Nat.succ_ne_self _, Nat.ne_of_lt hal, Nat.ne_of_lt (Nat.lt_succ_of_lt hal)⟩, fun b hb => fin b (by simpa using hb), q⟩
end
theorem for_enumS {x : Str} {k : Int} {g : TG} {tb : TS} {D : Ends} {σ : L2.St} {H : Hp} (Pv : Nat → L2.St → Hp → Prop) (h0 : Pv 0 σ H)
    (hs : ∀ (i c : Nat) (T : Addr) (σ : L2.St) (H : Hp), x.cps[i]? = some c → Pv i σ H → H T = none → g (.ref T) σ (upd H T (.tup [.int (k + (i : Nat)), .str ⟨#[c]⟩])) fun σ2 H2 => tb { D with nx := Pv (i + 1), ct := Pv (i + 1), bk := D.nx } σ2 H2) (hd : ∀ σ H, Pv x.cps.size σ H → D.nx σ H) :
    ∃ W : Nat → Nat → L2.St → Hp → Prop, (∃ m, W 0 m σ H) ∧ ∀ i m σ H, W i m σ H →
      ((ItsC x k).stop i H ∧ D.nx σ H) ∨ ((ItsC x k).go i H ∧ ∃ N : L2.St → Hp → Prop, (∀ σ' H', N σ' H' → ∃ m', m' < m ∧ W (i + 1) m' σ' H') ∧ ∀ v H', (ItsC x k).yld i H v H' → g v σ H' fun σ2 H2 => tb { D with nx := N, ct := N, bk := D.nx } σ2 H2) := by
  refine ⟨fun i m σ H => m = x.cps.size - i ∧ i ≤ x.cps.size ∧ Pv i σ H, ⟨x.cps.size, rfl, Nat.zero_le _, h0⟩, ?_⟩
  rintro i m σ H ⟨rfl, hi, p⟩
  by_cases hlt : i < x.cps.size
  · refine .inr ⟨hlt, Pv (i + 1), fun σ' H' p' => ⟨x.cps.size - (i + 1), by omega, rfl, hlt, p'⟩, fun v H' y => ?_⟩
    obtain ⟨T, c, rfl, hT, hc, rfl⟩ := y
    exact hs i c T σ H hc p hT
  · have e : i = x.cps.size := by omega
    subst e
    exact .inl ⟨rfl, hd σ H p⟩
theorem for_enumLC {K : PySem.W.Frag} {a : Addr} {xs : List V} {k : Int} {g : TG} {tb : TS} {D : Ends} {σ : L2.St} {H : Hp} (Pv : Nat → L2.St → Hp → Prop) (h0 : Pv 0 σ H) (hl : ∀ i σ H, i ≤ xs.length → Pv i σ H → SqL K H a xs)
    (hs : ∀ (i : Nat) (x : V) (T : Addr) (σ : L2.St) (H : Hp), xs[i]? = some x → Pv i σ H → H T = none → g (.ref T) σ (upd H T (.tup [.int (k + (i : Nat)), x])) fun σ2 H2 => tb { D with nx := Pv (i + 1), ct := Pv (i + 1), bk := D.nx } σ2 H2) (hd : ∀ σ H, Pv xs.length σ H → D.nx σ H) :
    ∃ W : Nat → Nat → L2.St → Hp → Prop, (∃ m, W 0 m σ H) ∧ ∀ i m σ H, W i m σ H →
      ((IteC K a k).stop i H ∧ D.nx σ H) ∨ ((IteC K a k).go i H ∧ ∃ N : L2.St → Hp → Prop, (∀ σ' H', N σ' H' → ∃ m', m' < m ∧ W (i + 1) m' σ' H') ∧ ∀ v H', (IteC K a k).yld i H v H' → g v σ H' fun σ2 H2 => tb { D with nx := N, ct := N, bk := D.nx } σ2 H2) := by
  refine ⟨fun i m σ H => m = xs.length - i ∧ i ≤ xs.length ∧ Pv i σ H, ⟨xs.length, rfl, Nat.zero_le _, h0⟩, ?_⟩
  rintro i m σ H ⟨rfl, hi, p⟩
  have q := hl i σ H hi p
  by_cases hlt : i < xs.length
  · have hx : xs[i]? = some xs[i] := List.getElem?_eq_getElem hlt
    refine .inr ⟨⟨xs, _, q, hx⟩, Pv (i + 1), fun σ' H' p' => ⟨xs.length - (i + 1), by omega, rfl, hlt, p'⟩, fun v H' y => ?_⟩
    obtain ⟨T, x, rfl, hT, rfl, hf⟩ := y
    exact hs i x T σ H (hf xs q) p hT
  · have e : i = xs.length := by omega
    subst e
    exact .inl ⟨⟨xs, q, rfl⟩, hd σ H p⟩
/-! ### isinstance of data -/
theorem kit2 {K : PySem.W.Frag} {a b c : String} {r1 r2 : Bool} (h1 : kitB a b = some r1) (h2 : kitB a c = some r2) : PySem.W.kitAny K (.type a) [.type b, .type c] = some (r1 || r2) := by
  refine kitAny_cons (kit_ty h1) (fun e => ?_) (fun e => by rw [e]; rfl)
  subst e
  refine kitAny_cons (kit_ty h2) (fun e => ?_) (fun e => by rw [e]; rfl)
  subst e
  rfl
/-- x is True, x None or a bool -/
theorem op_isB {X : Cx} : OpR X (compareOp .Is) (fun x y H Q => ∃ b, y = .bl b ∧ (x = .non ∨ ∃ a, x = .bl a) ∧ Q (.bl (decide (x = y))) H) := by
  intro pins s σ H x y v u Q I rx ry h
  obtain ⟨b, rfl, hx, q⟩ := h
  cases (show u = Value.bool b from ry)
  rcases hx with rfl | ⟨a, rfl⟩
  · cases (show v = Value.none from rx)
    exact wpAny_is_other rfl (fun z => by cases z) ⟨.bl false, H, I, rfl, by simpa using q⟩
  · cases (show v = Value.bool a from rx)
    by_cases e : a = b
    · subst e
      exact wpAny_is_self rfl ⟨.bl true, H, I, rfl, by simpa using q⟩
    · exact wpAny_is_other rfl (fun z => e (Value.bool.inj z)) ⟨.bl false, H, I, rfl, by simpa [e] using q⟩
/-! ### a for over a list or a tuple -/
def iSeq (K : PySem.W.Frag) (tl : TE) : TI := fun σ H R => tl σ H fun x H1 => ∃ a, x = .ref a ∧ (((∃ xs, SqL K H1 a xs) ∧ R (Itl K a) H1) ∨ ((∃ xs, SqT K H1 a xs) ∧ R (Itt K a) H1))
theorem pi_seq {X : Cx} {tg l : Expr} {tl : TE} (hl : PE X l tl) : PI X tg l (iSeq X.K tl) := by
  refine ⟨fun pins s σ H R I h => ?_⟩
  refine thn (hl.run pins s σ H _ I h) fun v s1 ⟨x, H1, I1, r1, q1⟩ => ?_
  obtain ⟨a, e, q1⟩ := q1
  subst e
  cases r1
  have fin : ∀ b ∈ [s1.heap.objs.size], FpOk X pins H1 b := fun b hb => by
    have e : b = s1.heap.objs.size := by simpa using hb
    subst e
    exact I1.fpOk (Nat.le_refl _) (I1.hok.fresh (Nat.le_refl _))
  rcases q1 with ⟨⟨xs, hq⟩, q⟩ | ⟨⟨xs, hq⟩, q⟩
  · obtain ⟨its, rv, p, hz⟩ := I1.list hq
    refine wpAny_pyIter_list p.isList ?_
    exact ⟨s1.heap.objs.size, [s1.heap.objs.size], _, _, H1, rfl, I1.kept (t' := s1.toks) fun b o e => Heap.get?_push_of_some _ e, turn_list a _, ⟨_, Heap.get?_push_size _ rfl, rfl, rfl⟩, fin, q⟩
  · obtain ⟨its, rv, p, hz⟩ := I1.tuple hq
    refine wpAny_pyIter_tuple (show s1.heap.IsTuple a its.toArray from p) ?_
    exact ⟨s1.heap.objs.size, [s1.heap.objs.size], _, _, H1, rfl, I1.kept (t' := s1.toks) fun b o e => Heap.get?_push_of_some _ e, turn_tuple a _, ⟨_, Heap.get?_push_size _ rfl, rfl, rfl⟩, fin, q⟩
/-! ### heaps -/
theorem Same.tup {K : PySem.W.Frag} {H H' : Hp} {a : Addr} {xs : List V} (e : Same H H') (h : SqT K H a xs) : SqT K H' a xs := by
  rcases h with (h | ⟨o, h⟩) | h
  · exact .inl (.inl (e _ _ h))
  · exact .inl (.inr ⟨o, e _ _ h⟩)
  · exact .inr h
mutual
theorem dp_mono {K : PySem.W.Frag} {H H' : Hp} (e : Same H H') : ∀ (d : PyData) (v : V), Dp K H v d → Dp K H' v d
  | .none, _, h => by cases h; exact .non
  | .bool b, _, h => by cases h; exact .bl b
  | .int i, _, h => by cases h; exact .int i
  | .str x, _, h => by cases h; exact .str x
  | .list ds, _, h => by cases h with | lst h1 h2 => exact .lst (e.seq h1) (dpAll_mono e ds _ h2)
  | .tuple ds, _, h => by cases h with | tup h1 h2 => exact .tup (Same.tup e h1) (dpAll_mono e ds _ h2)
  | .dict _, _, h => by cases h
theorem dpAll_mono {K : PySem.W.Frag} {H H' : Hp} (e : Same H H') : ∀ (ds : List PyData) (vs : List V), DpAll K H vs ds → DpAll K H' vs ds
  | [], _, h => by cases h; exact .nil
  | d :: ds, _, h => by cases h with | cons h1 h2 => exact .cons (dp_mono e d _ h1) (dpAll_mono e ds _ h2)
end
theorem dpAll_len {K : PySem.W.Frag} {H : Hp} : ∀ {vs : List V} {ds : List PyData}, DpAll K H vs ds → vs.length = ds.length
  | _, _, .nil => rfl
  | _, _, .cons _ t => by rw [List.length_cons, List.length_cons, dpAll_len t]
theorem dpAll_get {K : PySem.W.Frag} {H : Hp} : ∀ {vs : List V} {ds : List PyData}, DpAll K H vs ds → ∀ (i : Nat) (v : V), vs[i]? = some v → ∃ d, ds[i]? = some d ∧ Dp K H v d
  | _, _, .nil, i, v, h => by simp at h
  | _, _, .cons a t, 0, v, h => by simp at h; subst h; exact ⟨_, rfl, a⟩
  | _, _, .cons a t, i + 1, v, h => by
    obtain ⟨d, h1, h2⟩ := dpAll_get t i v (by simpa using h)
    exact ⟨d, by simpa using h1, h2⟩
theorem dpAll_snoc {K : PySem.W.Frag} {H : Hp} : ∀ {vs : List V} {ds : List PyData} {v : V} {d : PyData}, DpAll K H vs ds → Dp K H v d → DpAll K H (vs ++ [v]) (ds ++ [d])
  | _, _, _, _, .nil, h => .cons h .nil
  | _, _, _, _, .cons a t, h => .cons a (dpAll_snoc t h)
theorem tyL {K : PySem.W.Frag} {H : Hp} {a : Addr} {xs : List V} (h : SqL K H a xs) : TyX K H (.ref a) (.type "list") := by
  rcases h with (h | ⟨o, h⟩) | ⟨o, its, n, h1, h2, _⟩
  · exact .base (.lst h)
  · exact .base (.frz h)
  · exact .kList h1 h2
theorem tyT {K : PySem.W.Frag} {H : Hp} {a : Addr} {xs : List V} (h : SqT K H a xs) : TyX K H (.ref a) (.type "tuple") := by
  rcases h with (h | ⟨o, h⟩) | ⟨o, its, n, h1, h2, _⟩
  · exact .base (.tup h)
  · exact .fTuple h
  · exact .kTuple h1 h2
/-- data without dicts, at most n levels deep, no list too long -/
def okD : Nat → PyData → Prop
  | _, .none => True
  | _, .bool _ => True
  | _, .int _ => True
  | _, .str _ => True
  | n + 1, .list xs => xs.length ≤ 50000 ∧ ∀ x ∈ xs, okD n x
  | n + 1, .tuple xs => xs.length ≤ 50000 ∧ ∀ x ∈ xs, okD n x
  | _, _ => False
mutual
/-- what _law_plain makes -/
def plainD : PyData → PyData
  | .none => .str "None"
  | .bool b => .str (if b = true then "True" else "False")
  | .int i => .list [.bool false, .int i]
  | .str s => .list [.bool true, .str s]
  | .list xs => .list (.bool true :: plainAll xs)
  | .tuple xs => .list (.bool false :: plainAll xs)
  | .dict _ => .str "another"
def plainAll : List PyData → List PyData
  | [] => []
  | d :: ds => plainD d :: plainAll ds
end
theorem plainAll_map : ∀ ds : List PyData, plainAll ds = ds.map plainD
  | [] => by rw [plainAll]; rfl
  | d :: ds => by rw [plainAll, plainAll_map ds]; rfl
/-- v' is data d that stands on what came new behind H, as H' has it -/
def NewD (K : PySem.W.Frag) (H H' : Hp) (v : V) (d : PyData) : Prop := ∀ H2 : Hp, (∀ b o, H' b = some o → H b = none → H2 b = some o) → Dp K H2 v d
/-- items that stand on what came new behind H, all but D -/
def NewAll (K : PySem.W.Frag) (H : Hp) (D : Addr) (H' : Hp) (vs : List V) (ds : List PyData) : Prop := ∀ H2 : Hp, (∀ b o, H' b = some o → H b = none → b ≠ D → H2 b = some o) → DpAll K H2 vs ds
theorem none_of_same {H H' : Hp} {b : Addr} (e : Same H H') (h : H' b = none) : H b = none := e.free h
theorem NewAll.snoc {K : PySem.W.Frag} {H H1 H2 : Hp} {D : Addr} {vs : List V} {ds : List PyData} {v : V} {d : PyData} {o : HO} {z : HO} (h : NewAll K H D H1 vs ds) (hs : Same H H1) (hD : H1 D = some o) (s : Same H1 H2) (n : NewD K H1 H2 v d) : NewAll K H D (upd H2 D z) (vs ++ [v]) (ds ++ [d]) := fun H3 k =>
  dpAll_snoc (h H3 fun b o e n0 nD => k b o (by rw [upd_ne nD]; exact s b o e) n0 nD) (n H3 fun b u e n1 => by
    have nD : b ≠ D := fun z => by rw [z, hD] at n1; cases n1
    exact k b u (by rw [upd_ne nD]; exact e) (hs.free n1) nD)
theorem NewD.dp {K : PySem.W.Frag} {H H' : Hp} {v : V} {d : PyData} (h : NewD K H H' v d) : Dp K H' v d := h H' fun _ _ e _ => e
theorem same_upd {H : Hp} {p : Addr} {o : HO} (h : H p = none) : Same H (upd H p o) := fun b x e => by
  rw [upd_ne (ne_of_none e h)]
  exact e
/-- a new object changes -/
theorem same_mut {H H' : Hp} {p : Addr} {o : HO} (e : Same H H') (h : H p = none) : Same H (upd H' p o) := fun b x q => by
  rw [upd_ne (ne_of_none q h)]
  exact e b x q
/-- all but p is kept -/
def Kp (p : Addr) (H H' : Hp) : Prop := ∀ b o, H b = some o → b ≠ p → H' b = some o
theorem Kp.refl (p : Addr) (H : Hp) : Kp p H H := fun _ _ e _ => e
theorem Kp.trans {p : Addr} {H H1 H2 : Hp} (a : Kp p H H1) (b : Kp p H1 H2) : Kp p H H2 := fun c o e n => b c o (a c o e n) n
theorem Kp.of {p : Addr} {H H' : Hp} (h : Same H H') : Kp p H H' := fun b o e _ => h b o e
theorem Kp.upd {p : Addr} {H : Hp} {o : HO} : Kp p H (upd H p o) := fun b u e n => by rw [upd_ne n]; exact e
theorem ite_c {b : Bool} {x y : V} {σ : L2.St} {H : Hp} {Q : VK} (h : Q (if b = true then x else y) H) : if b = true then tC x σ H Q else tC y σ H Q := by
  cases b with
  | true => exact h
  | false => exact h
theorem if_int {b : Bool} {i j : Int} : (if b = true then V.int i else V.int j) = V.int (if b = true then i else j) := by cases b <;> rfl
/-- atI by places -/
theorem atI_ofNat {α : Type} {xs : List α} {i : Int} {v : α} (h0 : 0 ≤ i) (h : xs[i.toNat]? = some v) : atI xs i = some v := by
  have e : i = ((i.toNat : Nat) : Int) := by omega
  rw [e]
  exact atI_nat h
theorem atI_neg {α : Type} {xs : List α} {i : Int} {v : α} (h0 : i < 0) (h1 : -(xs.length : Int) ≤ i) (h : xs[(i + xs.length).toNat]? = some v) : atI xs i = some v := by
  have e : ixN xs.length i = some (i + xs.length).toNat := by
    unfold ixN
    rw [if_neg (by omega), if_pos h1]
  unfold atI
  rw [e]
  exact h
end Tw
set_option Elab.async false
set_option linter.all false
set_option maxRecDepth 100000
set_option maxHeartbeats 4000000
/-! a method whose first statement is super().__init__(..), the base above ValueError; and own exceptions -/
namespace ExS
open PySem PySem.Spec PyProof.Rows L2 NdefX
open PySem.W (kxs_mw)
section
variable {prog : Program} {w : World} {A : Around} {E : Value → Shared → Prop} {h : Heap} {g : Array GenState} {d : Drawn} {t : Nat} {os : OsState}
variable {nm q : Str} {C N : Addr} {bs bm : List Value} {hdct : Bool} {sn : List Str} {sub : List Value} {ab : Bool} {col : Option Bool} {dd : Option Addr} {k0 k1 k2 k3 k5 : Option Value}
theorem call_mw {u e t0 : Addr} {rest : List Value} {Q : Value → Shared → Prop}
    (hC : h.get? C = some (excClassObj nm q C N bs bm hdct sn sub ab col dd k0 k1 k2 k3 k5 "ValueError.__new__")) (he : h.get? e = some (HandSPX.excO C t0)) (hu : h.get? u = some (kxs_mw "ValueError.__init__" e)) (hrest : rest.length ≤ sizeLine)
    (hq : ∀ h' t1, (∀ b o, b ≠ e → h.get? b = some o → h'.get? b = some o) → h'.get? e = some (HandSPX.excO C t1) → Q .none ⟨h', g, d, t, os⟩) :
    wpAny (model prog w) A (call (.ref u) rest) Q E ⟨h, g, d, t, os⟩ := by
  refine wpAny_call (codeAny_of_tree ?_)
  show wpAny _ A.in1 (callAny (.ref u) ⟨rest, []⟩) _ _ _
  simp only [callAny]
  refine wpAny_bind (wpAny_load hu ?_)
  simp only [kxs_mw, show (Value.type "method-wrapper" == Value.type "method" || Value.type "method-wrapper" == Value.type "builtin_function_or_method" || Value.type "method-wrapper" == Value.type "method-wrapper") = true by decide, if_true]
  refine W.KFB.if_so (by decide) ?_
  refine wpAny_bind (W.check_bound_init F.excBase_ValueError.toExcCallFacts hC he rfl ?_)
  refine wpAny_bind (wpAny_pure (wpAny_pure ?_))
  refine ⟨Code.quiet_builtin _ (by decide +kernel), codeAny_builtin F.excBase_ValueError.initEntry ?_⟩
  exact W.exc_init_tree (cls := .ref C) (t0 := t0) (dv := none) (c2 := .none) (c3 := .none) (b4 := .bool false) he hrest fun h' k e' _ => hq h' _ k e'
theorem callWith_mw {M : Model} {s : Shared} {pos : Pos} {u x : Addr} {first : List Value} {args : List (Bool × Sem Value)} {Q : Value → Shared → Prop} (hplain : args.any (·.1) = false)
    (h : wpAny M A (evalArgs (.ref u) true args []) (fun ar s₁ => s₁.heap.get? u = some (kxs_mw "ValueError.__init__" x) ∧ wpAny M A (call (.ref u) (first ++ ar.pos) ar.kw) Q E s₁) E s) : wpAny M A (callWith pos (.ref u) first args []) Q E s :=
  W.kxs_callWith (i := "ValueError.__init__") (x := x) hplain h
theorem callWith_mw1 {M : Model} {s : Shared} {pos : Pos} {u x : Addr} {env : Env} {e : Expr} {rest : List Expr} {Q : Value → Shared → Prop}
    (h : wpAny M A (spliced (backTo pos (starEach (e :: rest) env))) (fun vs s₁ => s₁.heap.get? u = some (kxs_mw "ValueError.__init__" x) ∧ wpAny M A (call (.ref u) vs) Q E s₁) E s)
    (he : starEach (e :: rest) env = (false, eval e env) :: starEach rest env := by rfl) (hplain : (backTo pos (starEach rest env)).any (·.1) = false := by rfl) :
    wpAny M A (callWith pos (.ref u) [] (backTo pos (starEach (e :: rest) env)) []) Q E s := by
  rw [he] at h ⊢
  refine callWith_mw (x := x) (by show (false || (backTo pos (starEach rest env)).any (·.1)) = false; rw [hplain]; rfl) ?_
  exact Calls.evalArgs_plain h
end
section
variable {X : Cx} {pins : List (Addr × Obj)} {σ : L2.St} {H : Hp} {s : Shared} {a C u : Addr} {A : Around} {E : Value → Shared → Prop}
/-- the wrapper called: the arguments are laid anew, nothing of it is told -/
theorem mw_ok {us : List Value} {Q : Value → Shared → Prop} (T : OexC X.K C) (I : Inv X pins σ H s) (e : H a = some (exo a C none)) (hu : s.heap.get? u = some (kxs_mw "ValueError.__init__" a)) (hl : us.length ≤ sizeLine) (h : ∀ s', Inv X pins σ H s' → Q .none s') :
    wpAny (model X.prog X.w) A (call (.ref u) us) Q E s := by
  obtain ⟨nm, q, N, bs, bm, sn, sub, ab, col, dd, k0, k1, k2, k3, k5, hC, hbm⟩ := T.cls
  obtain ⟨t1, ho⟩ := exo_at I.hok e
  obtain ⟨hp, g, d, t, os⟩ := s
  refine call_mw (I.kIn _ _ hC) ho hu hl fun h' t2 k hx => ?_
  have J := I.write (t' := t) (x := a) (e := a) (o := exo a C none) (by rw [e]; exact True.intro) (.inl rfl) k ⟨_, hx⟩ (exo_ok hx)
  have eu : upd H a (exo a C none) = H := by
    funext b
    by_cases hb : b = a
    · rw [hb, upd_same, e]
    · rw [upd_ne hb]
  rw [eu] at J
  exact h _ J
end
/-! ### the def -/
/-- what the written part says of a method that says super() -/
structure SupM (P : Program) (K : PySem.W.Frag) (mg : Str → Option Value) (D cda cc : Addr) (qual : Str) : Prop where
  code : PySem.W.codeIn K (.ref cda) qual = true
  cod : ∃ ccl cdd vs ccs file tf, K.lookup cda = some ⟨ccl, cdd, .fields vs, ccs⟩ ∧ vs[2]? = some (.str file tf) ∧ ((P.main.file : Str) == file) = true
  cell : ∃ cl cld csl, K.lookup cc = some ⟨cl, cld, .cell (some (.ref D)), csl⟩
  clD : ∃ cdD, PySem.W.clsIn K D = some cdD
  sup : mg "super" = none
  tp : PySem.W.nsIn K cStatics "thirdparty.any" = some none
  top : (P.main.scope.names.lookup ("super" : Str)).isSome = false
/-- what it says of a class whose objects get there -/
structure SupC (K : PySem.W.Frag) (C D : Addr) : Prop where
  hs : PySem.W.ks_superIn K C D "__init__" = some (some (.builtin "ValueError.__init__"))
  sub : PySem.W.mroIn K C (.ref D) = some true
  sve : PySem.W.subIn K (.ref C) (.type "ValueError") = some true
/-- the reading of the first statement: a the object -/
def tSup (a C : Addr) (ta : TA) (tr : TS) : TS := fun D σ H => H a = some (exo a C none) ∧ ta σ H fun us H1 => us.length ≤ 1000 ∧ H1 a = some (exo a C none) ∧ tr D σ H1
section
variable {CX : CXT} {P : Program} {w : World} {K : PySem.W.Frag} {mg : Str → Option Value} {base : Heap} {N ps : List Str} {k : Nat} {sp : Sp} {f D cda cc : Addr} {od : Option Addr} {osl : Array (Option Value)} {oc doc pm ct kV : Value} {an : Option Addr} {F : NF}
theorem wpAt_super {X : Cx} {pins : List (Addr × Obj)} {σ : L2.St} {H : Hp} {s : Shared} {body : List Stmt} {p0 p1 p2 p3 : Pos} {e : Expr} {es : List Expr} {ta : TA} {a C : Addr} {fd : FuncData} {ar : Arg} {q0 : Str} {pl : Sem Bool} {Q : Value → Shared → Prop}
    (M : SupM X.prog X.K X.mg D cda cc q0) (S : SupC X.K C D) (T : OexC X.K C) (hfo : X.K.lookup f = some ⟨oc, od, .func fd, osl⟩) (hp : (fd.params.posonlyargs ++ fd.params.args).head? = some ar)
    (henv : X.env.func = some f) (hco : X.env.code = .ref cda) (hks : X.env.kindOf "super" = some .globalImplicit) (hkc : X.env.kindOf "__class__" = some .free) (hcc : X.env.cells.lookup ("__class__" : Str) = some cc)
    (hka : X.env.kindOf ar.arg = some .local) (hN : X.N[0]? = some ar.arg) (hσ : σ[0]? = some (some (.ref a))) (hpn : X.pn = []) (hpins : pins = [])
    (ha : PA X (e :: es) ta) (I : Inv X pins σ H s) (he0 : H a = some (exo a C none))
    {R : Hp → Prop} (hq : ta σ H fun us H1 => us.length ≤ 1000 ∧ H1 a = some (exo a C none) ∧ R H1) (hR : ∀ s' H1, Inv X pins σ H1 s' → R H1 → Q .none s')
    (hc : eval (.Call (.Attribute (.Call (.Name "super" p0) [] [] p1) "__init__" p2) (e :: es) [] p3) X.env = (do
      let ov ← attributeBase (.Call (.Name "super" p0) [] [] p1) "__init__" X.env (eval (.Call (.Name "super" p0) [] [] p1) X.env)
      standAt p2.atName
      let (f, first) ← holding [ov] (getMethod ov "__init__" pl)
      callWith p3 f first (backTo p3 (starEach (e :: es) X.env)) []))
    (he : starEach (e :: es) X.env = (false, eval e X.env) :: starEach es X.env) (hpl : (backTo p3 (starEach es X.env)).any (·.1) = false) :
    PySem.wpAt (model X.prog X.w) X.A (.func body X.env) (eval (.Call (.Attribute (.Call (.Name "super" p0) [] [] p1) "__init__" p2) (e :: es) [] p3) X.env) Q X.xe s := by
  obtain ⟨ccl, cdd, vs, ccs, file, tf, hcode, hvs, hfile⟩ := M.cod
  obtain ⟨cl, cld, csl, hcell⟩ := M.cell
  obtain ⟨cdD, hD⟩ := M.clD
  have KX := I.kIn
  obtain ⟨t1, ho⟩ := exo_at I.hok he0
  obtain ⟨oD, hD1, hD2⟩ : ∃ oD, s.heap.get? D = some oD ∧ oD.data = .cls cdD := by
    unfold PySem.W.clsIn at hD
    split at hD
    · rename_i c d cd' sl ho
      cases hD
      exact ⟨_, KX _ _ ho, rfl⟩
    · cases hD
  have hk := I.ok.kind
  refine PySem.ks_wpAt_MethodCall (pl := pl) ?_ hc
  refine PySem.ks_wpAt_super_base (env := X.env) hks hkc (by decide) henv (KX _ _ hfo) rfl hp hco (KX _ _ hcode) rfl hvs hfile M.top ?_
  obtain ⟨mb, hb1, hb2⟩ := I.mod.blt
  refine PySem.W.ks_loadName_global hk hks (Calls.loadGlobal_builtin (by rw [I.ok.glob]; exact I.mod.glob.keeps I.bk) M.sup (by rw [I.ok.blt]; exact hb1.keeps I.bk) ((hb2 _ (by decide)).trans Boot.«super») ⟨rfl, ?_⟩)
  refine wpAny_loadName_free hk hkc hcc ⟨_, KX _ _ hcell, rfl⟩ ?_
  obtain ⟨m, hns, hlk⟩ := I.loc
  obtain ⟨u0, r0, hl0⟩ := hlk 0 ar.arg (.ref a) hN hσ (.inl hka)
  obtain rfl : u0 = Value.ref a := r0
  have hm : m ar.arg = some (.ref a) := by
    rcases hl0 with ⟨_, z⟩ | ⟨z, _⟩
    · exact z
    · rcases z with z | z <;> rw [hka] at z <;> cases z
  refine wpAny_loadName_local hk hka hns hm ?_
  refine ks_wpAny_isType_cls hD1 hD2 ⟨rfl, ?_⟩
  obtain ⟨hp, g, d, t, os⟩ := s
  refine ks_wpAny_call_super (C := C) hD1 hD2 ho rfl (fun c z => by cases z) (PySem.W.looks_mroIn KX S.sub) (fun h' e1 k1 => ?_)
  have I1 : Inv X pins σ H ⟨h', g, d, t, os⟩ := I.kept k1
  have KX1 := I1.kIn
  have ho1 := k1 _ _ ho
  cases hcl : PySem.W.clsIn X.K C with
  | none =>
    have z := S.hs
    unfold PySem.W.ks_superIn at z
    rw [hcl] at z
    cases z
  | some cd =>
  have hs := S.hs
  unfold PySem.W.ks_superIn at hs
  rw [hcl] at hs
  have IA : PySem.W.InstAt h' a { cls := .ref C, dict := none, data := .fields #[.ref t1, .none, .none, .none, .bool false, .none] } C none := ⟨ho1, rfl, rfl, trivial⟩
  have hne : a ≠ C := PySem.W.ks_ne KX1 IA hcl
  refine PySem.W.kxs_getMethod PySem.W.kxs_ValueError (l₀ := cd.mro) e1 (PySem.W.looks_opaque KX1 M.tp) (fun A Q E s k q => wpAny_bind ((PySem.W.looks_clsIn KX1 hcl) A _ E s k (wpAny_pure q))) rfl KX1 hs (IA.type.andThen (PySem.W.looks_subIn KX1 S.sve)) hne (by decide) ?_
  have I2 : Inv X pins σ H ⟨h'.push (kxs_mw "ValueError.__init__" a), g, d, t + 1, os⟩ := I1.kept fun b o z => Heap.get?_push_of_some _ z
  have hmw : (h'.push (kxs_mw "ValueError.__init__" a)).get? h'.objs.size = some (kxs_mw "ValueError.__init__" a) := Heap.get?_push_size _ rfl
  have I3 : Inv X [(h'.objs.size, kxs_mw "ValueError.__init__" a)] σ H ⟨h'.push (kxs_mw "ValueError.__init__" a), g, d, t + 1, os⟩ := I2.pins_of fun p hp => by
    rw [List.mem_singleton] at hp
    subst hp
    exact ⟨hmw, I1.hok.fresh (Nat.le_refl _), fun z => absurd I1.lt (by rw [← z]; exact Nat.lt_irrefl _), I1.nofs (Nat.le_refl _), fun v z => by cases z⟩
  show wpAny _ _ (callWith p3 (Value.ref h'.objs.size) [] (backTo p3 (starEach (e :: es) X.env)) []) _ _ _
  refine callWith_mw1 (x := a) (thn (ha.run p3 _ _ σ H _ I3 hq) fun us s1 ⟨vs, H1, I4, r, hl, e4, q⟩ => ?_) he hpl
  have hu := (I4.pin _ (List.mem_append_right _ (List.mem_singleton.mpr rfl))).1
  refine ⟨hu, mw_ok T I4 e4 hu (by rw [← Paired.length r, sizeLine_eq]; omega) fun s' J => hR s' H1 ?_ q⟩
  exact J.pins_of fun p hp => by rw [hpins] at hp; cases hp
/-- THE RULE -/
theorem fn_super {name : Str} {params : Arguments} {body : List Stmt} {scope : Scope} {qual : Str} {p0 p1 p2 p3 p4 : Pos} {e : Expr} {es : List Expr} {ar : Arg} {pl : Sem Bool} {rest : List Stmt}
    (lk : K.lookup f = some ⟨oc, od, .func (PySem.W.ksFn name qual params body scope .none kV doc pm an (.ref cda) ct cc), osl⟩)
    (M : SupM P K mg D cda cc qual) (S : NScope N ps ["__class__"] scope) (hbody : body = .Expr (.Call (.Attribute (.Call (.Name "super" p0) [] [] p1) "__init__" p2) (e :: es) [] p3) p4 :: rest)
    (hp : (params.posonlyargs ++ params.args).head? = some ar) (hps : ps.head? = some ar.arg) (hks : scope.names.lookup ("super" : Str) = some .globalImplicit)
    (len : ∀ vs H Q E, sp vs H Q E → vs.length = ps.length)
    (hrun : ∀ (A : Around) (outer : List Env) (s : Shared) (H : Hp) (vs : List V) (Q : VK) (E : XK), Room k (A.deeper (envF ⟨name, qual, params, body, scope, [("__class__", cc)], cda⟩ f s.heap.objs.size)) → sp vs H Q E →
      ∃ a C ta tr, vs.head? = some (V.ref a) ∧ SupC K C D ∧ OexC K C ∧ PA (ncx CX P w K mg base N ⟨name, qual, params, body, scope, [("__class__", cc)], cda⟩ f A outer s H E) (e :: es) ta ∧
        PSs (ncx CX P w K mg base N ⟨name, qual, params, body, scope, [("__class__", cc)], cda⟩ f A outer s H E) rest tr ∧ tSup a C ta tr { nx := fun _ H' => Q .non H', rt := Q } (startF N vs [some (.ref D)]) H)
    (hc : ∀ env : Env, eval (.Call (.Attribute (.Call (.Name "super" p0) [] [] p1) "__init__" p2) (e :: es) [] p3) env = (do
      let ov ← attributeBase (.Call (.Name "super" p0) [] [] p1) "__init__" env (eval (.Call (.Name "super" p0) [] [] p1) env)
      standAt p2.atName
      let (f, first) ← holding [ov] (getMethod ov "__init__" pl)
      callWith p3 f first (backTo p3 (starEach (e :: es) env)) []))
    (hs : ∀ env : Env, swapsWith (.Call (.Attribute (.Call (.Name "super" p0) [] [] p1) "__init__" p2) (e :: es) [] p3) none p4.line env = pure false)
    (he : ∀ env : Env, starEach (e :: es) env = (false, eval e env) :: starEach es env) (hpl : ∀ env : Env, (backTo p3 (starEach es env)).any (·.1) = false) :
    FnOk P w K mg base CX (k + 1) f (PySem.W.ksFn name qual params body scope .none kV doc pm an (.ref cda) ct cc) ps sp := by
  refine ⟨len, fun A outer s H args us vs Q E hr e0 hb r hsp => ?_⟩
  have hl := len _ _ _ _ hsp
  have KX : K.In s.heap := e0.mod.kin.keeps fun b o e => (e0.bs b o e).1
  have lim : s.heap.NoLimit := e0.mod.nolimit.keeps fun b o e => (e0.bs b o e).1
  obtain ⟨cl, cld, csl, hcell⟩ := M.cell
  have C0 : CellsAt [("__class__", cc)] ["__class__"] [some (V.ref D)] s.heap H := by
    refine ⟨rfl, fun y c z => ?_, fun x y c z1 z2 => ?_, fun i y z => ?_⟩
    · have hy : c = cc := by
        by_cases hy : y = "__class__"
        · subst hy
          simp [List.lookup] at z
          exact z.symm
        · have : (y == ("__class__" : Str)) = false := by simpa using hy
          simp [List.lookup, this] at z
      subst hy
      exact ⟨(e0.bs _ _ (e0.mod.kin _ _ hcell)).2, _, ⟨_, KX _ _ hcell, rfl⟩⟩
    · have key : ∀ {y : Str} {c : Addr}, List.lookup y [(("__class__" : Str), cc)] = some c → y = "__class__" := fun {y c} z => by
        by_cases hy : y = "__class__"
        · exact hy
        · have : (y == ("__class__" : Str)) = false := by simpa using hy
          simp [List.lookup, this] at z
      rw [key z1, key z2]
    · match i, z with
      | 0, z =>
        have z : (("__class__" : Str)) = y := Option.some.inj z
        subst z
        exact ⟨cc, by simp [List.lookup], fun v hv => by
          have hv : V.ref D = v := Option.some.inj (Option.some.inj hv)
          subst hv
          exact ⟨.ref D, rfl, _, KX _ _ hcell, rfl⟩⟩
      | n + 1, z => simp at z
  let F0 : NF := ⟨name, qual, params, body, scope, [("__class__", cc)], cda⟩
  refine codeAny_call_function hr.depth (KX _ _ lk) rfl S.co S.gen rfl (PySem.W.codeRec_of KX M.code) (hb _ _ _ _ ?_)
  refine wpAny_newFunctionEnv S.nocell (fun ⟨n, _⟩ hy => S.par n (List.of_mem_zip hy).1) (fun h₁ hns hsb => ⟨lim.fresh _ hsb, ?_⟩) S.kind
  show codeAny _ _ (.func body (envF F0 f s.heap.objs.size)) _ _
  refine PySem.ks_codeAny_funcAt ?_
  have kp : ∀ b o, s.heap.get? b = some o → h₁.get? b = some o := fun b o e => hsb.extBut b o (Nat.ne_of_lt (Heap.lt_size e)) (Heap.get?_push_of_some _ e)
  obtain ⟨a, C, ta, tr, hva, hSC, hT, hta, htr, hq⟩ := hrun A outer s H vs Q E (hr.deeper _) hsp
  have I : Inv (ncx CX P w K mg base N F0 f A outer s H E) [] (startF N vs [some (.ref D)]) H { s with heap := h₁, toks := s.toks + (ps.zip us).length } := inv_startN S hr.hd e0 hl r C0 hns kp
  have fin : ∀ {s' : Shared} {σ' : L2.St} {H' : Hp} {v : V} {u : Value}, Inv (ncx CX P w K mg base N F0 f A outer s H E) [] σ' H' s' → L2.RelV v u → Q v H' → CE outer P w H s Q u s' :=
    fun {s' σ' H' v u} J rv q => ⟨v, H', J.os, J.bare, J.base, J.hok, rv, q⟩
  obtain ⟨psr, hpsr⟩ : ∃ l, ps = ar.arg :: l := by
    cases ps with
    | nil => cases hps
    | cons x l => exact ⟨l, by rw [Option.some.inj hps]⟩
  obtain ⟨vsr, hvsr⟩ : ∃ l, vs = V.ref a :: l := by
    cases vs with
    | nil => cases hva
    | cons x l => exact ⟨l, by rw [Option.some.inj hva]⟩
  have hN0 : N[0]? = some ar.arg := by
    have q := S.pre
    rw [hpsr] at q
    have q2 : (N.take ((ar.arg :: psr).length + [("__class__" : Str)].length))[0]? = some ar.arg := by rw [q]; rfl
    rw [List.getElem?_take_of_lt (by simp)] at q2
    exact q2
  have hi : interactive (envF F0 f s.heap.objs.size) = false := by
    unfold interactive
    show _ = false
    simp [envF, F0, S.kind]
  rw [hbody]
  refine PySem.ks_wpAt_execs_cons (PySem.ks_wpAt_Expr_any ?_ hi (hs _))
  refine wpAt_super (X := ncx CX P w K mg base N F0 f A outer s H E) (σ := startF N vs [some (.ref D)]) (H := H) M hSC hT lk hp rfl rfl hks (S.frk _ (by simp)) (by show List.lookup _ [(("__class__" : Str), cc)] = some cc; simp [List.lookup]) (S.par _ (by rw [hpsr]; simp)) hN0
    (by rw [hvsr]; rfl) rfl rfl hta I hq.1 hq.2 (fun s1 H1 J z => ?_) (hc _) (he _) (hpl _)
  show PySem.wpAt _ _ _ (execs rest _) _ _ _
  refine PySem.wpAt_of_wpAny (wpAny_mono (htr.run [] _ _ H1 _ J z) (fun fl s' hs => ?_) fun e s' hs => hs)
  cases fl with
  | ret u =>
    obtain ⟨v, σ', H', J, rv, q⟩ := hs
    exact fin J rv q
  | next =>
    obtain ⟨σ', H', J, q⟩ := hs
    exact fin (v := V.non) (u := Value.none) J rfl q
  | brk =>
    obtain ⟨_, _, _, q⟩ := hs
    exact False.elim q
  | cont =>
    obtain ⟨_, _, _, q⟩ := hs
    exact False.elim q
end
/-! ### words for the laws -/
/-- the j-th statement of a class's body -/
def methS (st : Stmt) (j : Nat) : Stmt := (C8.clsBody st).getD j (.Pass ⟨0, 0, 0, 0⟩)
section
variable {P : Program} {w : World} {K : PySem.W.Frag} {mg : Str → Option Value} {base : Heap}
/-- what __init__ of an own exception is promised: fs: its fields, by its arguments -/
def spInit (C : Addr) (ok : List V → Prop) (fs : List V → List (Str × V)) : Sp := fun vs H Q _ => ∃ (a : Addr) (xs : List V), vs = .ref a :: xs ∧ ok xs ∧ H a = some (exo a C none) ∧
  ∀ (dx : Addr) (H' : Hp), H dx = none → dx ≠ a → (∀ b, b ≠ a → b ≠ dx → H' b = H b) → H' a = some (exo a C (some dx)) → H' dx = some (exd dx (fs xs)) → Q .non H'
/-- a class of own exceptions, called -/
structure MkX (P : Program) (w : World) (K : PySem.W.Frag) (mg : Str → Option Value) (base : Heap) (k : Nat) (x : Str) (C : Addr) (ok : List V → Prop) (fs : List V → List (Str × V)) : Prop where
  ox : OexC K C
  gC : mg x = some (.ref C)
  ini : ∃ (fI : Addr) (fd : FuncData) (ps : List Str), PySem.W.findIn K (.ref C) "__init__" = some (some (.ref fI)) ∧ PySem.W.typeIn K (.ref fI) = some (.type "function") ∧ FnOk P w K mg base CX0 k fI fd ps (spInit C ok fs) ∧ Binds K fd ps []
/-- a def that may let an exception out -/
structure CalX (P : Program) (w : World) (K : PySem.W.Frag) (mg : Str → Option Value) (base : Heap) (k : Nat) (x : Str) (sp : Sp) : Prop where
  ex : ∃ (f : Addr) (fd : FuncData) (ps : List Str), FnOk P w K mg base (L2.CX P w) k f fd ps sp ∧ mg x = some (.ref f) ∧ PySem.W.keepIn K (.ref f) = true ∧ Binds K fd ps []
end
section
variable {X : Cx} {CX : CXT} {k j : Nat} {C : Addr} {x : Str} {ok : List V → Prop} {fs : List V → List (Str × V)} {p pos : Pos} {e : Expr} {es : List Expr} {ta : TA} {E : L2.St → XK} {sp : Sp}
theorem pe_cX (c : CalX X.prog X.w X.K X.mg X.base k x sp) (hr : Room j X.A) (hk : k ≤ j) (hg : Gl X x) (hx : ∀ σ, PassesAt (L2.CX X.prog X.w) X σ (E σ)) (ha : PA X (e :: es) ta)
    (hdb : (x == ("__debug__" : Str)) = false := by decide) (he : starEach (e :: es) X.env = (false, eval e X.env) :: starEach es X.env := by rfl) (hpl : (backTo pos (starEach es X.env)).any (·.1) = false := by rfl) :
    PE X (.Call (.Name x p) (e :: es) [] pos) (tCallS sp E ta) := by
  obtain ⟨f, fd, ps, F, hm, kp, b⟩ := c.ex
  exact pe_callS F (hr.mono hk) hg hm kp b hx ha hdb he hpl
/-- nothing is let out -/
theorem pass0S {X : Cx} : ∀ σ : L2.St, PassesAt (L2.CX X.prog X.w) X σ E0 := fun σ pins H s e s' I c => passL pins σ H s e s' I c
end
section
variable {X : Cx} {k j : Nat} {C : Addr} {x : Str} {ok : List V → Prop} {fs : List V → List (Str × V)} {p pos : Pos} {e : Expr} {es : List Expr} {ta : TA}
theorem pmk_X (c : MkX X.prog X.w X.K X.mg X.base k x C ok fs) (hr : Room j X.A) (hk : k + 1 ≤ j) (hg : Gl X x) (ha : PA X (e :: es) ta)
    (hdb : (x == ("__debug__" : Str)) = false := by decide) (he : starEach (e :: es) X.env = (false, eval e X.env) :: starEach es X.env := by rfl) (hpl : (backTo pos (starEach es X.env)).any (·.1) = false := by rfl) :
    PMk X (.Call (.Name x p) (e :: es) [] pos) (tMkO C (spInit C ok fs) [] ta) := by
  obtain ⟨fI, fd, ps, iC, tI, F, b⟩ := c.ini
  exact pmk_oex c.ox iC tI F (hr.mono hk) b (dvs := []) .nil pass0 hg c.gC ha hdb he hpl
/-- the end of that reading -/
theorem mkx {vs : List V} {H1 : Hp} {Q : XK} {E : XK} (hl : vs.length ≤ 1000) (hok : ok vs) (q : ∀ (d : Addr) (H' : Hp), Same H1 H' → H1 d = none → H' d = some (.xd (fs vs)) → Q (.ref C) (some d) H') :
    vs.length ≤ 1000 ∧ ∀ a, H1 a = none → spInit C ok fs (.ref a :: (vs ++ [])) (upd H1 a (exo a C none))
      (fun v H2 => v = .non ∧ ∃ (d : Addr) (fs : List (Str × V)), H2 a = some (exo a C (some d)) ∧ H2 d = some (exd d fs) ∧ H1 d = none ∧ Q (.ref C) (some d) (upd (del H2 a) d (.xd fs))) E := by
  refine ⟨hl, fun a na => ⟨a, vs, by rw [List.append_nil], hok, upd_same, fun dx H' hd hne hk ha' hdx => ?_⟩⟩
  have hd1 : H1 dx = none := by
    rw [upd_ne hne] at hd
    exact hd
  refine ⟨rfl, dx, fs vs, ha', hdx, hd1, q dx _ (fun y o hy => ?_) hd1 upd_same⟩
  have ya : y ≠ a := fun z => by rw [z, na] at hy; cases hy
  have yd : y ≠ dx := fun z => by rw [z, hd1] at hy; cases hy
  rw [upd_ne yd, del_ne ya, hk y ya yd, upd_ne ya]
  exact hy
end
/-! ### isinstance of a caught exception that has fields -/
theorem kit_ref {K : PySem.W.Frag} {C : Addr} {t : Value} {b : Bool} (hd : PySem.W.hasDictIn K C = true) (ht : PySem.W.typeIn K (.ref C) = some (.type "type")) (hs : PySem.W.subIn K t (.ref C) = some b) (hb : (t == .ref C) = true → b = true) : PySem.W.kitOne K t (.ref C) = some b := by
  unfold PySem.W.kitOne
  by_cases e : (t == Value.ref C) = true
  · rw [if_pos e, hb e]
  · rw [if_neg e]
    obtain ⟨cd, hc, _⟩ := PySem.W.any_some hd
    show (if ((PySem.W.clsIn K C).isSome && PySem.W.typeIn K (.ref C) == some (.type "type")) = true then PySem.W.subIn K t (.ref C) else none) = some b
    have e2 : ((PySem.W.clsIn K C).isSome && PySem.W.typeIn K (.ref C) == some (.type "type")) = true := by rw [hc, ht] <;> rfl
    rw [if_pos e2]
    exact hs
/-- isinstance(e, c), e the exception that the suite holds (at a, its class cls, its dict d) -/
def rIsX (K : PySem.W.Frag) (a : Addr) (cls : Value) (d : Option Addr) : List V → Hp → VK → Prop := fun xs H Q => ∃ (C D dd : Addr) (fs : List (Str × V)) (b : Bool), xs = [.ref a, .ref C] ∧ cls = .ref D ∧ d = some dd ∧ H dd = some (.xd fs) ∧ ExcC K D ∧ PySem.W.kitOne K (.ref D) (.ref C) = some b ∧ Q (.bl b) H
theorem call_isX {X : Cx} {a : Addr} {oe : Obj} {cls : Value} {d : Option Addr} {pn : List (Addr × Obj)} (hz : Zc cls d oe) (hf : ∃ vs, oe.data = .fields vs) : CallR (X.suite a ((a, oe) :: pn)) (.builtin "isinstance") (rIsX X.K a cls d) := by
  intro pins s σ H xs us Q I r h
  obtain ⟨C, D, dd, fs, b, rfl, ec, ed, ea, E, e, q⟩ := h
  subst ec
  subst ed
  obtain ⟨u1, u2, rfl, r1, r2⟩ := vals2 r
  cases (show u1 = Value.ref a from r1)
  cases (show u2 = Value.ref C from r2)
  obtain ⟨ha, _⟩ := I.pin (a, oe) (List.mem_append_left _ List.mem_cons_self)
  obtain ⟨vs, hd⟩ := hf
  have hx : ObjOk X.prog X.w H s.heap dd (.xd fs) := I.hok dd _ ea
  obtain ⟨mA, hns, hr⟩ := hx
  obtain ⟨od, ho, hl⟩ := lookIn_ns hns
  have J : PySem.W.InstAt s.heap a oe D (some od) := ⟨ha, hz.1, by unfold PySem.W.notCls; rw [hd] <;> rfl, by rw [hz.2]; exact ho⟩
  have hcl : (PySem.W.clsIn X.K D).isSome = true := by
    obtain ⟨cd, hc, _⟩ := PySem.W.any_some E.hd
    rw [hc]
    rfl
  exact PySem.W.kia_one (PySem.W.kitx_exc hcl E.hg E.hk E.hs E.ha E.hn E.ht E.hm) I.kIn J e (fun z => nomatch z) fun tk => ⟨.bl b, H, I.kept (t' := tk) fun _ _ z => z, rfl, q⟩
/-! ### what the laws ask of the classes of errors -/
/-- the class x at C, below the class at T -/
structure ErrC (K : PySem.W.Frag) (mg : Str → Option Value) (x : Str) (C T : Addr) : Prop where
  gC : mg x = some (.ref C)
  ox : OexC K C
  ec : ExcC K C
  tell : PySem.W.subIn K (.ref C) (.ref T) = some true
section
variable {K : PySem.W.Frag} {mg : Str → Option Value} {x : Str} {C T : Addr}
theorem ErrC.xf (e : ErrC K mg x C T) : XfC K C := ⟨e.ec.hg, e.ec.hk, e.ec.hs, e.ec.hd⟩
theorem ErrC.exm {y : Str} (e : ErrC K mg x C T) (t : ErrC K mg y T T) : PySem.W.exmOne K (.ref C) (.ref T) = some true := PySem.W.exm_ref t.ec.hs t.ec.hd t.ox.tyC e.tell
theorem ErrC.kit {y : Str} {D : Addr} {b : Bool} (e : ErrC K mg x C T) (d : ErrC K mg y D T) (hs : PySem.W.subIn K (.ref C) (.ref D) = some b) (hb : C = D → b = true) : PySem.W.kitOne K (.ref C) (.ref D) = some b :=
  kit_ref d.ec.hd d.ox.tyC hs fun z => hb (by simpa using z)
end
theorem pe_err {X : Cx} {x : Str} {C T : Addr} {pos : Pos} (e : ErrC X.K X.mg x C T) (hg : Gl X x) (hd : (x == ("__debug__" : Str)) = false := by decide) : PE X (.Name x pos) (tC (.ref C)) := pe_glob hg e.gC rfl hd
end ExS
set_option Elab.async false
set_option linter.all false
set_option maxRecDepth 100000
set_option maxHeartbeats 4000000
/-! displays of dicts with tuple keys; methods and makers that may raise -/
namespace LX
open PySem PySem.Spec PyProof.Rows L2
/-! ### {(..): v, ..} -/
def mergeT (kvs : List (List Key × V)) (more : List (List Key × V)) : List (List Key × V) := more.foldl (fun acc kv => putK acc kv.1 kv.2) kvs
theorem length_mergeT : ∀ (more kvs : List (List Key × V)), (mergeT kvs more).length ≤ kvs.length + more.length
  | [], kvs => by show kvs.length ≤ kvs.length + 0; omega
  | p :: r, kvs => by
    have h1 := length_mergeT r (putK kvs p.1 p.2)
    have h2 := length_putK kvs p.1 p.2
    show (mergeT (putK kvs p.1 p.2) r).length ≤ _
    rw [List.length_cons]; omega
/-- the pairs: key, the key's tuple, value -/
abbrev KB := List Key × Addr × V
def tDispT (trs : List (TE × TE)) : TE := fun σ H Q => ∀ p, H p = none → tPairs trs σ (upd H p (.dT [])) fun ps H2 => H2 p = some (.dT []) ∧ ∃ kbs : List KB, ps = kbs.map (fun kb => (V.ref kb.2.1, kb.2.2)) ∧ (∀ kb ∈ kbs, H2 kb.2.1 = some (.tup (kb.1.map kV))) ∧ kbs.length ≤ 15 ∧
  Q (.ref p) (upd H2 p (.dT (mergeT [] (kbs.map fun kb => (kb.1, kb.2.2)))))
theorem carriesT {P : Program} {w : World} {H : Hp} {h : Heap} (ok : HOk P w H h) : ∀ {kbs : List KB} {ws : List (Value × Value)}, (∀ kb ∈ kbs, H kb.2.1 = some (.tup (kb.1.map kV))) → VV (kbs.map (fun kb => (V.ref kb.2.1, kb.2.2))) ws →
    ∃ xs : List (List Key × Addr × Value), CarriesH (tupleKind (mixKind P w)) h ws xs ∧ Paired (fun (p : KB) (q : List Key × Addr × Value) => p.1 = q.1 ∧ p.2.1 = q.2.1 ∧ RelV p.2.2 q.2.2) kbs xs
  | [], _, _, r => by rw [List.map_nil] at r; cases r; exact ⟨[], trivial, .nil⟩
  | kb :: kbs, _, he, r => by
    rw [List.map_cons] at r
    cases r with
    | @cons a b as bs h t =>
      obtain ⟨xs, c, q⟩ := carriesT ok (fun x hx => he x (List.mem_cons_of_mem _ hx)) t
      obtain ⟨b1, b2⟩ := b
      obtain ⟨h1, h2⟩ := h
      cases (show b1 = Value.ref kb.2.1 from h1)
      exact ⟨(kb.1, kb.2.1, b2) :: xs, ⟨rfl, rfl, key_of ok (he kb (by simp)), c⟩, .cons ⟨rfl, rfl, h2⟩ q⟩
theorem mergeT_ok {H : Hp} : ∀ {kbs : List KB} {xs : List (List Key × Addr × Value)} {kvs : List (List Key × V)} {acc : List (List Key × Addr × Value)}, Paired (fun (p : KB) (q : List Key × Addr × Value) => p.1 = q.1 ∧ p.2.1 = q.2.1 ∧ RelV p.2.2 q.2.2) kbs xs →
    (∀ kb ∈ kbs, H kb.2.1 = some (.tup (kb.1.map kV))) → KT H kvs acc → KT H (mergeT kvs (kbs.map fun kb => (kb.1, kb.2.2))) (storedAllH acc xs)
  | _, _, _, _, .nil, _, r => r
  | kb :: kbs, (k, a, v) :: xs, kvs, acc, .cons ⟨h1, h2, h3⟩ t, he, r => by
    dsimp only at h1 h2 h3
    subst h1 h2
    exact mergeT_ok (kbs := kbs) (xs := xs) t (fun x hx => he x (List.mem_cons_of_mem _ hx)) (r.put kb.1 (he kb (by simp)) h3)
theorem pe_dispT {X : Cx} {pos : Pos} {keys : List (Option Expr)} {values : List Expr} {trs : List (TE × TE)} (hu : X.A.units + 1 < cLine) (h : PPs X pos keys values trs) (hall : keys.all (·.isSome) = true) (hl : keys.length = values.length) (h0 : keys ≠ [])
    (h15 : keys.length ≤ 15) : PE X (.Dict keys values pos) (tDispT trs) := by
  refine ⟨fun pins s σ H Q I q => ?_⟩
  have hn := I.hok.fresh (Nat.le_refl s.heap.objs.size)
  have I1 := I.laid (a := s.heap.objs.size) (o := .dT []) (h' := s.heap.push { cls := .type "dict", data := .dict #[] }) (t' := s.toks) (fun _ _ q => Heap.get?_push_of_some _ q) (Nat.le_refl _) (dt_empty s.heap I.big)
  have hlen : (pairTrees keys values X.env pos).length = keys.length := pairTrees_length keys values X.env pos hall hl
  rw [arm_eval_Dict, zip_pairTrees keys values X.env pos hall hl, dictDisplay_pairs _ (fun z => h0 (List.length_eq_zero_iff.mp (by rw [← hlen, z]; rfl))) (by omega)]
  refine wpAny_bind (wpAny_standAt (wpAny_bind ?_))
  refine wpAny_subDictH (knd := tupleKind (mixKind X.prog X.w)) (Nat.lt_of_succ_lt hu) (by omega) (thn (h.run pins _ σ _ _ I1 (q _ hn)) fun ws s2 ⟨ps, H2, I2, rel, e, kbs, ep, hk, lk, q2⟩ => ?_)
  subst ep
  obtain ⟨xs, c, rk⟩ := carriesT I2.hok hk rel
  obtain ⟨z, hd, vs0, r0, dd⟩ := dt_of I2.hok e
  cases r0
  refine ⟨xs, c, dd, fun h' tk dd' hs => wpAny_pure ⟨.ref s.heap.objs.size, _, ?_, rfl, q2⟩⟩
  have hz : (mergeT [] (kbs.map fun kb => (kb.1, kb.2.2))).length ≤ sizeLine := by
    have h1 := length_mergeT (kbs.map fun kb => (kb.1, kb.2.2)) []
    rw [List.length_nil, List.length_map] at h1
    rw [sizeLine_eq]; omega
  obtain ⟨qo, es, ep, hq, h2, h3, h4, _, h5⟩ := dd'
  refine d_write I2 (by rw [e]; exact True.intro) hs ⟨qo, hq⟩ ⟨hz, hd, _, (mergeT_ok rk hk .nil).keeps fun c ys ec => ?_, qo, es, ep, hq, h2, h3, h4, h5⟩
  rw [upd_ne (ne_of ec e (fun z => nomatch z))]
  exact ec
/-! ### methods that may raise; objects made by an __init__ that may raise -/
section
variable {P : Program} {w : World} {K : PySem.W.Frag} {mg : Str → Option Value} {base : Heap}
/-- a method of the class at C that may let an exception out -/
structure MetX (P : Program) (w : World) (K : PySem.W.Frag) (mg : Str → Option Value) (base : Heap) (k : Nat) (C : Addr) (m : Str) (sp : Sp) : Prop where
  ex : ∃ (f : Addr) (fd : FuncData) (ps : List Str), Cls K C ∧ Meth K C m f ∧ FnOk P w K mg base (L2.CX P w) k f fd ps sp ∧ Binds K fd ps []
/-- .. that lets none out -/
structure Met0 (P : Program) (w : World) (K : PySem.W.Frag) (mg : Str → Option Value) (base : Heap) (k : Nat) (C : Addr) (m : Str) (sp : Sp) : Prop where
  ex : ∃ (f : Addr) (fd : FuncData) (ps : List Str), Cls K C ∧ Meth K C m f ∧ FnOk P w K mg base CX0 k f fd ps sp ∧ Binds K fd ps []
/-- a class whose __init__ may let an exception out -/
structure MakX (P : Program) (w : World) (K : PySem.W.Frag) (mg : Str → Option Value) (base : Heap) (k : Nat) (x : Str) (C : Addr) (sp : Sp) : Prop where
  ex : ∃ (f : Addr) (fd : FuncData) (ps : List Str), Mk K C f ∧ FnOk P w K mg base (L2.CX P w) k f fd ps sp ∧ mg x = some (.ref C) ∧ Binds K fd ps []
end
section
variable {X : Cx} {CX : CXT} {k j : Nat} {f C : Addr} {fd : FuncData} {ps : List Str} {sp : Sp} {E : L2.St → XK} {x m : Str} {p pos apos : Pos} {e o : Expr} {es : List Expr} {ta : TE} {t : TA} {XE0 : XK}
theorem passE {X : Cx} {E : XK} (tk : Takes X (fun cls d _ H => E cls d H)) : Passes (L2.CX X.prog X.w) X E := fun pins σ H s e s' I c => passAt tk σ pins H s e s' I c
/-- o.m(e, ..) -/
theorem pe_mX {pl : Sem Bool} (c : MetX X.prog X.w X.K X.mg X.base k C m sp) (hr : Room j X.A) (hk : k ≤ j) (he : PE X o ta) (ha : PA X (e :: es) t) (hx : Passes (L2.CX X.prog X.w) X XE0)
    (hst : starEach (e :: es) X.env = (false, eval e X.env) :: starEach es X.env := by rfl) (hpl : (backTo pos (starEach es X.env)).any (·.1) = false := by rfl)
    (ht : eval (.Call (.Attribute o m apos) (e :: es) [] pos) X.env = (do
      let ov ← eval o X.env
      standAt apos.atName
      let (f, first) ← holding [ov] (getMethod ov m pl)
      callWith pos f first (backTo pos (starEach (e :: es) X.env)) (backToKw pos (keywordEach [] X.env))) := by rfl) :
    PE X (.Call (.Attribute o m apos) (e :: es) [] pos) (tMeth C m sp [] XE0 ta t) := by
  obtain ⟨f, fd, ps, hc, hm, F, b⟩ := c.ex
  exact pe_meth (pl := pl) he hc hm F (hr.mono hk) b .nil hx ha hst hpl ht
theorem pe_m0 {pl : Sem Bool} (c : Met0 X.prog X.w X.K X.mg X.base k C m sp) (hr : Room j X.A) (hk : k ≤ j) (he : PE X o ta) (ha : PA X (e :: es) t)
    (hst : starEach (e :: es) X.env = (false, eval e X.env) :: starEach es X.env := by rfl) (hpl : (backTo pos (starEach es X.env)).any (·.1) = false := by rfl)
    (ht : eval (.Call (.Attribute o m apos) (e :: es) [] pos) X.env = (do
      let ov ← eval o X.env
      standAt apos.atName
      let (f, first) ← holding [ov] (getMethod ov m pl)
      callWith pos f first (backTo pos (starEach (e :: es) X.env)) (backToKw pos (keywordEach [] X.env))) := by rfl) :
    PE X (.Call (.Attribute o m apos) (e :: es) [] pos) (tMeth C m sp [] E0 ta t) := by
  obtain ⟨f, fd, ps, hc, hm, F, b⟩ := c.ex
  exact pe_meth (pl := pl) he hc hm F (hr.mono hk) b .nil pass0 ha hst hpl ht
theorem pe_m00 {pl : Sem Bool} (c : Met0 X.prog X.w X.K X.mg X.base k C m sp) (hr : Room j X.A) (hk : k ≤ j) (he : PE X o ta)
    (ht : eval (.Call (.Attribute o m apos) [] [] pos) X.env = (do
      let ov ← eval o X.env
      standAt apos.atName
      let (f, first) ← holding [ov] (getMethod ov m pl)
      callWith pos f first (backTo pos (starEach [] X.env)) (backToKw pos (keywordEach [] X.env))) := by rfl) :
    PE X (.Call (.Attribute o m apos) [] [] pos) (tMeth C m sp [] E0 ta tNil) := by
  obtain ⟨f, fd, ps, hc, hm, F, b⟩ := c.ex
  exact pe_meth0 (pl := pl) he hc hm F (hr.mono hk) b .nil pass0 ht
/-- C(e, ..), what it lets out told by the slots -/
def tMakeS (C : Addr) (sp : Sp) (E : L2.St → XK) (t : TA) : TE := fun σ H Q => t σ H fun vs H1 => ∀ x dx, H1 x = none → H1 dx = none → dx ≠ x → sp (.ref x :: vs) (upd (upd H1 dx (.own x)) x (.ins C dx [])) (fun v H2 => v = .non ∧ Q (.ref x) H2) (E σ)
theorem run_makeS {pins : List (Addr × Obj)} {σ : L2.St} {H : Hp} {s : Shared} {Q : VK} {us : List Value} {vs : List V} (M : Mk X.K C f) (F : FnOk X.prog X.w X.K X.mg X.base CX k f fd ps sp) (hr : Room (k + 1) X.A) (hb : Binds X.K fd ps [])
    (hx : PassesAt CX X σ (E σ)) (I : Inv X pins σ H s) (r : Vals vs us)
    (h : ∀ x dx, H x = none → H dx = none → dx ≠ x → sp (.ref x :: vs) (upd (upd H dx (.own x)) x (.ins C dx [])) (fun v H2 => v = .non ∧ Q (.ref x) H2) (E σ)) :
    wpAny (model X.prog X.w) X.A (call (.ref C) us) (EP X pins σ Q) X.xe s := by
  have hq := h (s.heap.objs.size + 1) s.heap.objs.size (I.hok.fresh (Nat.le_succ _)) (I.hok.fresh (Nat.le_refl _)) (Nat.ne_of_lt (Nat.lt_succ_self _))
  have I2 := Inv.made (C := C) I
  have r2 : Vals (V.ref (s.heap.objs.size + 1) :: vs) (Value.ref (s.heap.objs.size + 1) :: us) := .cons rfl r
  have hl : (Value.ref (s.heap.objs.size + 1) :: us).length = ps.length := by
    have e := r2.length
    rw [F.len _ _ _ _ hq] at e
    exact e.symm
  have b := hb _ (Value.ref (s.heap.objs.size + 1) :: us) I2.kIn (by rw [List.append_nil]; exact hl)
  rw [List.append_nil] at b
  refine wpAny_call (make_map (f := f) I.kIn M.makes M.init (beq_iff_eq.mp M.fn) (codeAny_mono (F.run _ X.stack _ _ ⟨Value.ref (s.heap.objs.size + 1) :: us, []⟩ (Value.ref (s.heap.objs.size + 1) :: us) _ _ (E σ) (hr.make C us [])
    (I2.env0.make C us []) b r2 hq) fun r s' hq' => ?_))
  cases r with
  | error e => exact hx pins _ _ e s' I2 hq'
  | ok fl =>
    cases fl with
    | ret u =>
      obtain ⟨v, H', I3, rv, ev, q3⟩ := I2.after hq'
      subst ev
      exact ⟨rv, ⟨V.ref (s.heap.objs.size + 1), H', I3, rfl, q3⟩⟩
    | next => exact False.elim hq'
    | brk => exact False.elim hq'
    | cont => exact False.elim hq'
theorem pe_mkX (c : MakX X.prog X.w X.K X.mg X.base k x C sp) (hr : Room j X.A) (hk : k + 1 ≤ j) (hg : Gl X x) (hx : ∀ σ, PassesAt (L2.CX X.prog X.w) X σ (E σ)) (ha : PA X (e :: es) t)
    (hdb : (x == ("__debug__" : Str)) = false := by decide) (he : starEach (e :: es) X.env = (false, eval e X.env) :: starEach es X.env := by rfl) (hpl : (backTo pos (starEach es X.env)).any (·.1) = false := by rfl) :
    PE X (.Call (.Name x p) (e :: es) [] pos) (tMakeS C sp E t) := by
  obtain ⟨f, fd, ps, M, F, hm, b⟩ := c.ex
  refine ⟨fun pins s σ H Q I h => ?_⟩
  refine wpAny_Call_Name_kw (ld_glob I hg hm ?_ hdb)
  refine PySem.W.callWith_K (h₀ := X.base) I.ok.mod.kin M.kp (thn (ha.run pos pins s σ H _ I h) fun us s1 ⟨vs, H1, I1, r, q⟩ => ⟨I1.kIn, ?_⟩) he hpl
  exact run_makeS M F (hr.mono hk) b (hx σ) I1 r q
end
/-! ### enumerate(x, k) of a tuple too -/
open Tw
def ItcT (K : PySem.W.Frag) (a : Addr) (k : Int) : It :=
  ⟨fun i H => ∃ (xs : List V) (x : V), SqT K H a xs ∧ xs[i]? = some x, fun i H v H' => ∃ T x, v = .ref T ∧ H T = none ∧ H' = upd H T (.tup [.int (k + (i : Nat)), x]) ∧ ∀ xs, SqT K H a xs → xs[i]? = some x, fun i H => ∃ xs : List V, SqT K H a xs ∧ xs.length = i⟩
section
variable {X : Cx}
theorem turn_enumT {P : Program} {w : World} {K : PySem.W.Frag} {elts : List Expr} {kk : Nat} {tpos : Pos} (a : Addr) (k : Int) (e it : Addr) :
    Turn P w K (.Tuple elts kk tpos) (ItcT K a k) [e, it] e (fun i h => (∃ old, IsEnum h e it (k + ((i : Nat) : Int)) old) ∧ h.IsTupleIter it a i ∧ e ≠ it ∧ a ≠ it ∧ a ≠ e) where
  mem := by simp
  obj := fun i h st b hb => by
    obtain ⟨⟨old, he⟩, ⟨o, ho, hc, hd⟩, _⟩ := st
    have e' : b = e ∨ b = it := by simpa using hb
    rcases e' with z | z
    · rw [z]; exact ⟨_, he, fun v q => nomatch q⟩
    · rw [z]; exact ⟨o, ho, fun v q => by rw [hd] at q; cases q⟩
  keep := fun i h h' st k => let ⟨⟨old, he⟩, hi, hne⟩ := st; ⟨⟨old, k e (by simp) _ he⟩, hi.at fun o q => k it (by simp) o q, hne⟩
  item := by
    intro X hP hw hK hc i pins s σ H E I hf st hg
    subst hP hw hK
    obtain ⟨⟨old, he⟩, hit, hne, hai, hae⟩ := st
    obtain ⟨xs, x, hq, hx⟩ := hg
    obtain ⟨its, rv, p, hz⟩ := I.tuple hq
    obtain ⟨u, hu, ru⟩ := rv.get hx
    have hil : it < s.heap.objs.size := by obtain ⟨_, q, _⟩ := hit; exact Heap.lt_size q
    have hsz : its.length = xs.length := rv.length.symm
    have hi : i < its.toArray.size := by
      have := (List.getElem?_eq_some_iff.mp hx).1
      simp; omega
    refine enum_turn (fq := [e, it]) (fp := [it, a]) (n := its.toArray.size) (Pd := fun i v => its.toArray[i]? = some v) (Sd := fun i h => h.IsTupleIter it a i ∧ h.IsTuple a its.toArray) (yld := (ItcT X.K a k).yld i H) (tn := fun h => (∃ old, IsEnum h e it (k + ((i + 1 : Nat) : Int)) old) ∧ h.IsTupleIter it a (i + 1) ∧ e ≠ it ∧ a ≠ it ∧ a ≠ e) I (Draws.tuple (A := X.A.in1) (I.ok.hd hc) it a hai its.toArray) he ⟨hit, p⟩ hi hne (by simp [hne, Ne.symm hae]) (fun b => by simp) hf hil
      (fun u' hu' => ?_) (fun h' q b => ⟨q, b.1, hne, hai, hae⟩) (fun h1 h2 b hk => ⟨b.1.at fun o q => hk it o (Ne.symm hne) q, b.2.at fun o q => hk a o hae q⟩)
    have eu : u' = u := by
      have : its[i]? = some u' := by simpa using hu'
      rw [hu] at this
      exact (Option.some.inj this).symm
    subst eu
    exact ⟨x, ru, fun T hT => ⟨T, x, rfl, hT, rfl, fun ys hy => by rw [I.tuple_inj hy hq]; exact hx⟩⟩
  done := by
    intro X hP hw hK hc i pins s σ H E I hf st hg
    subst hP hw hK
    obtain ⟨⟨old, he⟩, hit, hne, hai, hae⟩ := st
    obtain ⟨xs, hq, hx⟩ := hg
    obtain ⟨its, rv, p, hz⟩ := I.tuple hq
    obtain ⟨f0, f1, f2, f3, f4, f5⟩ := hf it (by simp)
    have hsz : i = its.toArray.size := by
      have := rv.length
      simp; omega
    subst hsz
    exact wpAny_pyNext_enum_endD (Draws.tuple (prog := X.prog) (w := X.w) (A := X.A.in1) (I.ok.hd hc) it a hai its.toArray) he ⟨hit, p⟩ fun h' eb => ⟨rfl, I.turned (t' := s.toks) (fun b o hb q => eb b o hb q) f0 f1 f3 f4 f5⟩
  self := fun A i s Q E st h => let ⟨⟨_, he⟩, _⟩ := st; wpAny_pyIter_enum he h
/-- enumerate(v, k) of a list or a tuple -/
def iEnumA (K : PySem.W.Frag) (ta : TA) : TI := fun σ H R => ta σ H fun vs H1 => ∃ (a : Addr) (k : Int), vs = [.ref a, .int k] ∧ (0 ≤ k ∧ k ≤ 1000) ∧ ((∃ xs, SqL K H1 a xs ∧ R (IteC K a k) H1) ∨ ∃ xs, SqT K H1 a xs ∧ R (ItcT K a k) H1)
theorem pi_enumA {e e2 : Expr} {ta : TA} {p pos tpos : Pos} {elts : List Expr} {kk : Nat} (hg : Gl X "enumerate") (hm : X.mg "enumerate" = none) (ha : PA X [e, e2] ta)
    (hs : starEach [e, e2] X.env = (false, eval e X.env) :: starEach [e2] X.env := by rfl) (hpl : (backTo pos (starEach [e2] X.env)).any (·.1) = false := by rfl) :
    PI X (.Tuple elts kk tpos) (.Call (.Name "enumerate" p) [e, e2] [] pos) (iEnumA X.K ta) := by
  refine ⟨fun pins s σ H R I h => ?_⟩
  refine Call_ (ld_blt I hg hm boot_enumerate (PyProof.Rows.callWith_type1 (thn (ha.run pos pins s σ H _ I h) fun us s1 ⟨vs, H1, I1, r1, q1⟩ => ?_) hs hpl))
  obtain ⟨a, k, ex, ⟨k0, k1⟩, q⟩ := q1
  subst ex
  obtain ⟨u, u', rfl, rv, t, rfl⟩ := vals2 r1
  have fin : ∀ b : Addr, b = s1.heap.objs.size + 1 ∨ b = s1.heap.objs.size → FpOk X pins H1 b := fun b e' => by
    have hle : s1.heap.objs.size ≤ b := by
      rcases e' with z | z
      · rw [z]; exact Nat.le_add_right _ _
      · rw [z]; exact Nat.le_refl _
    exact I1.fpOk hle (I1.hok.fresh hle)
  cases rv
  rcases q with ⟨xs, hq, q⟩ | ⟨xs, hq, q⟩
  · obtain ⟨its, rv', p', hz⟩ := I1.list hq
    refine enum_begins (begins_list a its.toArray) p'.isList (by omega) (by omega) fun h' he hit hsz hk => wpAny_pyIter_enum he ?_
    have I2 : Inv X pins σ H1 { s1 with heap := h' } := I1.kept (t' := s1.toks) hk
    have hal : a < s1.heap.objs.size := by
      obtain ⟨o, ho, _⟩ := p'.isList
      exact Heap.lt_size ho
    refine ⟨s1.heap.objs.size + 1, [s1.heap.objs.size + 1, s1.heap.objs.size], _, _, H1, rfl, I2, turn_enumL a k (s1.heap.objs.size + 1) s1.heap.objs.size, ⟨⟨.none, by simpa using he⟩, ⟨_, hit, rfl, rfl⟩, Nat.succ_ne_self _, Nat.ne_of_lt hal, Nat.ne_of_lt (Nat.lt_succ_of_lt hal)⟩, fun b hb => fin b (by simpa using hb), q⟩
  · obtain ⟨its, rv', p', hz⟩ := I1.tuple hq
    refine enum_begins (begins_tuple a its.toArray) p' (by omega) (by omega) fun h' he hit hsz hk => wpAny_pyIter_enum he ?_
    have I2 : Inv X pins σ H1 { s1 with heap := h' } := I1.kept (t' := s1.toks) hk
    have hal : a < s1.heap.objs.size := by
      obtain ⟨o, ho, _⟩ := p'
      exact Heap.lt_size ho
    refine ⟨s1.heap.objs.size + 1, [s1.heap.objs.size + 1, s1.heap.objs.size], _, _, H1, rfl, I2, turn_enumT a k (s1.heap.objs.size + 1) s1.heap.objs.size, ⟨⟨.none, by simpa using he⟩, ⟨_, hit, rfl, rfl⟩, Nat.succ_ne_self _, Nat.ne_of_lt hal, Nat.ne_of_lt (Nat.lt_succ_of_lt hal)⟩, fun b hb => fin b (by simpa using hb), q⟩
end
theorem for_enumTC {K : PySem.W.Frag} {a : Addr} {xs : List V} {k : Int} {g : TG} {tb : TS} {D : Ends} {σ : L2.St} {H : Hp} (Pv : Nat → L2.St → Hp → Prop) (h0 : Pv 0 σ H) (hl : ∀ i σ H, i ≤ xs.length → Pv i σ H → SqT K H a xs)
    (hs : ∀ (i : Nat) (x : V) (T : Addr) (σ : L2.St) (H : Hp), xs[i]? = some x → Pv i σ H → H T = none → g (.ref T) σ (upd H T (.tup [.int (k + (i : Nat)), x])) fun σ2 H2 => tb { D with nx := Pv (i + 1), ct := Pv (i + 1), bk := D.nx } σ2 H2) (hd : ∀ σ H, Pv xs.length σ H → D.nx σ H) :
    ∃ W : Nat → Nat → L2.St → Hp → Prop, (∃ m, W 0 m σ H) ∧ ∀ i m σ H, W i m σ H →
      ((ItcT K a k).stop i H ∧ D.nx σ H) ∨ ((ItcT K a k).go i H ∧ ∃ N : L2.St → Hp → Prop, (∀ σ' H', N σ' H' → ∃ m', m' < m ∧ W (i + 1) m' σ' H') ∧ ∀ v H', (ItcT K a k).yld i H v H' → g v σ H' fun σ2 H2 => tb { D with nx := N, ct := N, bk := D.nx } σ2 H2) := by
  refine ⟨fun i m σ H => m = xs.length - i ∧ i ≤ xs.length ∧ Pv i σ H, ⟨xs.length, rfl, Nat.zero_le _, h0⟩, ?_⟩
  rintro i m σ H ⟨rfl, hi, p⟩
  have q := hl i σ H hi p
  by_cases hlt : i < xs.length
  · have hx : xs[i]? = some xs[i] := List.getElem?_eq_getElem hlt
    refine .inr ⟨⟨xs, _, q, hx⟩, Pv (i + 1), fun σ' H' p' => ⟨xs.length - (i + 1), by omega, rfl, hlt, p'⟩, fun v H' y => ?_⟩
    obtain ⟨T, x, rfl, hT, rfl, hf⟩ := y
    exact hs i x T σ H (hf xs q) p hT
  · have e : i = xs.length := by omega
    subst e
    exact .inl ⟨⟨xs, q, rfl⟩, hd σ H p⟩
/-! ### isinstance of data -/

theorem pe_fldK {X : Cx} {K : PySem.W.Frag} {e : Expr} {ta : TE} {f : Str} {pos : Pos} (hK : X.K = K) (he : PE X e ta) (hb : attributeBase e f X.env (eval e X.env) = eval e X.env) : PE X (.Attribute e f pos) (tFld K ta f) := by
  subst hK
  exact pe_fld he hb
/-- what ' '.join(e) tells, the frame named -/
def tJoinK (K : PySem.W.Frag) (to te : TE) : TE := tM1 (fun x xs H Q => ∃ a p, ∃ ys : List Str, x = .str a ∧ xs = [.ref p] ∧ (SqL K H p (ys.map V.str) ∨ SqT K H p (ys.map V.str)) ∧ (ys.map (·.length)).sum + ys.length * a.length ≤ 16777216 ∧ Q (.str (Txt.join a ys)) H) to te
theorem pe_joinK {X : Cx} {K : PySem.W.Frag} {o e : Expr} {to te : TE} {apos pos : Pos} (hK : X.K = K) (ho : PE X o to) (he : PE X e te) (hs : starEach [e] X.env = [(false, eval e X.env)] := by rfl) (hbase : attributeBase o "join" X.env (eval o X.env) = eval o X.env := by rfl) (hline : (apos.endLine == pos.line) = true := by rfl) :
    PE X (.Call (.Attribute o "join" apos) [e] [] pos) (tJoinK K to te) := by
  subst hK
  exact pe_join ho he hs hbase hline
theorem pi_tupK {X : Cx} {K : PySem.W.Frag} {tg l : Expr} {tl : TE} (hK : X.K = K) (hl : PE X l tl) : PI X tg l (iTup K tl) := by
  subst hK
  exact pi_tup hl
theorem pi_listK {X : Cx} {K : PySem.W.Frag} {tg l : Expr} {tl : TE} (hK : X.K = K) (hl : PE X l tl) : PI X tg l (iList K tl) := by
  subst hK
  exact pi_list hl
theorem lookup_relabel {env : Env} {x : Str} : ∀ {names : List (Str × NameKind)}, names.lookup x = some .cell ∨ names.lookup x = some .free →
    (names.map fun (n, k) => if (k == NameKind.free && env.scope.kind == .function && env.kindOf n == some .cell) then (n, NameKind.cell) else (n, k)).lookup x = some .cell ∨
    (names.map fun (n, k) => if (k == NameKind.free && env.scope.kind == .function && env.kindOf n == some .cell) then (n, NameKind.cell) else (n, k)).lookup x = some .free
  | [], h => by simp at h
  | (n, k) :: r, h => by
    have ih := @lookup_relabel env x r
    rw [List.map_cons]
    cases hx : x == n with
    | true =>
      simp only [List.lookup_cons, hx] at h
      show List.lookup x ((if (k == NameKind.free && env.scope.kind == .function && env.kindOf n == some .cell) = true then (n, NameKind.cell) else (n, k)) :: _) = _ ∨ List.lookup x ((if (k == NameKind.free && env.scope.kind == .function && env.kindOf n == some .cell) = true then (n, NameKind.cell) else (n, k)) :: _) = _
      split
      · exact .inl (by simp [List.lookup_cons, hx])
      · simp only [List.lookup_cons, hx]
        exact h
    | false =>
      simp only [List.lookup_cons, hx] at h
      show List.lookup x ((if (k == NameKind.free && env.scope.kind == .function && env.kindOf n == some .cell) = true then (n, NameKind.cell) else (n, k)) :: _) = _ ∨ List.lookup x ((if (k == NameKind.free && env.scope.kind == .function && env.kindOf n == some .cell) = true then (n, NameKind.cell) else (n, k)) :: _) = _
      split <;> (simp only [List.lookup_cons, hx]; exact ih h)
theorem blkOk_in {X : Cx} {N : List Str} {scope0 scope : Scope} {own : List (Str × Nat)} {s : Shared} {H : Hp} {C : Addr} {cl : List (Str × Addr)} {fp : List Addr} (h : blkC N scope0 scope own = true) : BlkOk N (X.blk s H scope0 (compEnvC scope0 cl C X.env) fp).env.scope scope own := by
  have b : BlkOk N scope0 scope own := blkOk_by h
  exact ⟨b.kind, b.uniq, b.ix, fun y hy e => lookup_relabel (b.free y hy e), b.own⟩
theorem pe_c0 {X : Cx} {k j : Nat} {x : Str} {sp : Sp} {dvs : List V} {p pos : Pos} (c : C8.Cal X.prog X.w X.K X.mg X.base k x sp dvs) (hr : Room j X.A) (hk : k ≤ j) (hg : Gl X x) (hdb : (x == ("__debug__" : Str)) = false := by decide) :
    PE X (.Call (.Name x p) [] [] pos) (tCall sp dvs E0 tNil) := by
  obtain ⟨f, fd, ps, ds, F, hm, kp, b, d⟩ := c.ex
  exact pe_call0 F (hr.mono hk) hg hm kp b d pass0 hdb
/-- isinstance(e, (c1, ..)), e the exception that the suite holds -/
def rIsXT (K : PySem.W.Frag) (a : Addr) (cls : Value) (d : Option Addr) : List V → Hp → VK → Prop := fun xs H Q => ∃ (tp D dd : Addr) (cs : List V) (us : List Value) (fs : List (Str × V)) (b : Bool), xs = [.ref a, .ref tp] ∧ cls = .ref D ∧ d = some dd ∧ H dd = some (.xd fs) ∧ H tp = some (.tup cs) ∧ Paired ClsV cs us ∧ ExcC K D ∧ PySem.W.kitAny K (.ref D) us = some b ∧ Q (.bl b) H
theorem call_isXT {X : Cx} {a : Addr} {oe : Obj} {cls : Value} {d : Option Addr} {pn : List (Addr × Obj)} (hz : Zc cls d oe) (hf : ∃ vs, oe.data = .fields vs) : CallR (X.suite a ((a, oe) :: pn)) (.builtin "isinstance") (rIsXT X.K a cls d) := by
  intro pins s σ H xs us Q I r h
  obtain ⟨tp, D, dd, cs, ws, fs, b, rfl, ec, ed, ea, hT, k, E, e, q⟩ := h
  subst ec
  subst ed
  obtain ⟨u1, u2, rfl, r1, r2⟩ := vals2 r
  cases (show u1 = Value.ref a from r1)
  cases (show u2 = Value.ref tp from r2)
  obtain ⟨ha, _⟩ := I.pin (a, oe) (List.mem_append_left _ List.mem_cons_self)
  obtain ⟨vs, hd⟩ := hf
  have hx : ObjOk X.prog X.w H s.heap dd (.xd fs) := I.hok dd _ ea
  obtain ⟨mA, hns, hr⟩ := hx
  obtain ⟨od, ho, hl⟩ := lookIn_ns hns
  have J : PySem.W.InstAt s.heap a oe D (some od) := ⟨ha, hz.1, by unfold PySem.W.notCls; rw [hd] <;> rfl, by rw [hz.2]; exact ho⟩
  have hcl : (PySem.W.clsIn X.K D).isSome = true := by
    obtain ⟨cd, hc, _⟩ := PySem.W.any_some E.hd
    rw [hc]
    rfl
  obtain ⟨_, its, rv, o, h1, h2, n, h3⟩ := (show ObjOk X.prog X.w H s.heap tp (.tup cs) from I.hok tp _ hT)
  have e3 := ClsV.all k rv
  subst e3
  obtain ⟨oc, od2, dt, sl⟩ := o
  simp only at h2 h3
  subst h2 h3
  exact PySem.W.kia_tup (PySem.W.kitx_exc hcl E.hg E.hk E.hs E.ha E.hn E.ht E.hm) I.kIn J h1 e (fun z => nomatch z) fun tk => ⟨.bl b, H, I.kept (t' := tk) fun _ _ z => z, rfl, q⟩
theorem pe_bmK {X : Cx} {K : PySem.W.Frag} {o e : Expr} {es : List Expr} {to : TE} {t : TA} {name : Str} {apos cpos : Pos} {T id : String} {r : V → List V → Hp → VK → Prop} (hK : X.K = K) (pa : PySem.PlainAttrs T) (slot : PySem.Slot T name id) (hty : typeOf (.builtin id) = pure (.type "method_descriptor")) (hm : MtR X id r) (ho : PE X o to) (ha : PA X (e :: es) t)
    (hbase : attributeBase o name X.env (eval o X.env) = eval o X.env := by rfl)
    (hfew : ((backTo cpos (starEach (e :: es) X.env)).all (fun x => !x.1) && (backToKw cpos (keywordEach [] X.env)).all (fun x => x.1.isSome)
      && decide ((e :: es).length + ([] : List Keyword).length + (if ([] : List Keyword).isEmpty then 0 else 1) < 30)) = true := by rfl)
    (hline : (apos.endLine == cpos.line) = true := by rfl) (hs : starEach (e :: es) X.env = (false, eval e X.env) :: starEach es X.env := by rfl) (hplain : (backTo cpos (starEach es X.env)).any (·.1) = false := by rfl) :
    PE X (.Call (.Attribute o name apos) (e :: es) [] cpos) (tBM K T r to t) := by
  subst hK
  exact pe_bm pa slot hty hm ho ha hbase hfew hline hs hplain
end LX
set_option Elab.async false
set_option linter.all false
set_option maxRecDepth 100000
set_option maxHeartbeats 4000000
/-! texts in rows; tokens: the plain law -/
namespace Tk
open PySem Tw
/-! ### rows, places -/
theorem snocRec {P : List Nat → Prop} (nil : P []) (append_singleton : ∀ l c, P l → P (l ++ [c])) (l : List Nat) : P l := by
  have key : ∀ r : List Nat, P r.reverse := by
    intro r
    induction r with
    | nil => exact nil
    | cons c r ih => rw [List.reverse_cons]; exact append_singleton _ _ ih
  have := key l.reverse
  rwa [List.reverse_reverse] at this
def rows : List Nat → List (List Nat)
  | [] => [[]]
  | c :: r => if c = 10 then [] :: rows r else match rows r with
    | x :: xs => (c :: x) :: xs
    | [] => [[c]]
theorem rows_ne (l : List Nat) : rows l ≠ [] := by
  cases l with
  | nil => simp [rows]
  | cons c r =>
    unfold rows
    split
    · simp
    · split <;> simp
theorem rows_eq {l : List Nat} {c : Nat} (h : c ≠ 10) : ∃ x xs, rows l = x :: xs ∧ rows (c :: l) = (c :: x) :: xs := by
  cases e : rows l with
  | nil => exact absurd e (rows_ne l)
  | cons x xs => exact ⟨x, xs, rfl, by rw [rows, if_neg h, e]⟩
theorem rows_free : ∀ (l : List Nat), ∀ r ∈ rows l, 10 ∉ r
  | [], r, h => by simp [rows] at h; subst h; simp
  | c :: l, r, h => by
    by_cases e : c = 10
    · rw [rows, if_pos e] at h
      rcases List.mem_cons.mp h with h | h
      · subst h; simp
      · exact rows_free l r h
    · obtain ⟨x, xs, e1, e2⟩ := rows_eq (l := l) e
      rw [e2] at h
      have ih := rows_free l
      rw [e1] at ih
      rcases List.mem_cons.mp h with h | h
      · subst h
        intro q
        rcases List.mem_cons.mp q with q | q
        · exact e q.symm
        · exact ih x (by simp) q
      · exact ih r (List.mem_cons_of_mem _ h)
/-- joined by line ends -/
def joined : List (List Nat) → List Nat
  | [] => []
  | [x] => x
  | x :: y :: r => x ++ 10 :: joined (y :: r)
theorem rows_joined : ∀ (L : List (List Nat)), L ≠ [] → (∀ r ∈ L, 10 ∉ r) → rows (joined L) = L
  | [], h, _ => absurd rfl h
  | [x], _, hf => by
    have : ∀ x : List Nat, 10 ∉ x → rows x = [x] := by
      intro x
      induction x with
      | nil => intro _; rfl
      | cons c r ih =>
        intro h
        have hc : c ≠ 10 := fun e => h (by rw [e]; simp)
        rw [rows, if_neg hc, ih fun q => h (List.mem_cons_of_mem _ q)]
    exact this x (hf x (by simp))
  | x :: y :: r, _, hf => by
    have ih := rows_joined (y :: r) (by simp) fun z hz => hf z (List.mem_cons_of_mem _ hz)
    have : ∀ x : List Nat, 10 ∉ x → ∀ t, rows (x ++ 10 :: t) = x :: rows t := by
      intro x
      induction x with
      | nil => intro _ t; rw [List.nil_append, rows, if_pos rfl]
      | cons c q ih =>
        intro h t
        have hc : c ≠ 10 := fun e => h (by rw [e]; simp)
        rw [List.cons_append, rows, if_neg hc, ih (fun z => h (List.mem_cons_of_mem _ z)) t]
    rw [joined, this x (hf x (by simp)), ih]
theorem joined_rows : ∀ (l : List Nat), joined (rows l) = l
  | [] => rfl
  | c :: l => by
    have ih := joined_rows l
    by_cases e : c = 10
    · rw [rows, if_pos e]
      cases h : rows l with
      | nil => exact absurd h (rows_ne l)
      | cons x xs =>
        rw [h] at ih
        rw [joined, ih, e]
        rfl
    · obtain ⟨x, xs, e1, e2⟩ := rows_eq (l := l) e
      rw [e1] at ih
      rw [e2]
      cases xs with
      | nil =>
        rw [joined] at ih ⊢
        rw [ih]
      | cons y r =>
        rw [joined] at ih ⊢
        rw [List.cons_append, ih]
theorem join_S : ∀ (L : List (List Nat)), Str.join (⟨#[10]⟩ : Str) (L.map S) = S (joined L)
  | [] => rfl
  | [x] => rfl
  | x :: y :: r => by
    show S x ++ (⟨#[10]⟩ : Str) ++ Str.join _ ((y :: r).map S) = _
    rw [join_S (y :: r), S_add1, S_add, joined]
    simp
theorem split_rows (l : List Nat) : Txt.split (S l) ⟨#[10]⟩ = (rows l).map S := by
  have hj := StrLaws.join_split (S l) ⟨#[10]⟩
  have hf := StrLaws.split_free (S l) 10
  have hp := PyProof.Rows.split_pos (S l) ⟨#[10]⟩
  generalize Txt.split (S l) ⟨#[10]⟩ = L at hj hf hp
  have e : L = (L.map fun z : Str => z.cps.toList).map S := by
    rw [List.map_map]
    have : (S ∘ fun z : Str => z.cps.toList) = id := by funext z; exact (S_of z).symm
    rw [this, List.map_id]
  rw [e, join_S] at hj
  have h2 := S_inj.mp hj
  have h3 := rows_joined (L.map fun z : Str => z.cps.toList) (by intro q; rw [List.map_eq_nil_iff] at q; subst q; simp at hp) fun r hr => by
    obtain ⟨z, hz, rfl⟩ := List.mem_map.mp hr
    exact hf z hz
  rw [h2] at h3
  rw [h3]
  exact e
/-- how many signs stand behind the last line end -/
def tl (l : List Nat) : Nat := (l.reverse.takeWhile fun c => decide (c ≠ 10)).length
theorem tl_nil : tl [] = 0 := rfl
theorem tl_snoc (l : List Nat) (c : Nat) : tl (l ++ [c]) = if c = 10 then 0 else tl l + 1 := by
  unfold tl
  rw [List.reverse_append]
  show ((c :: l.reverse).takeWhile _).length = _
  rw [List.takeWhile_cons]
  by_cases e : c = 10
  · simp [e]
  · simp [e]
theorem tl_le (l : List Nat) : tl l ≤ l.length := by
  unfold tl
  have := (List.takeWhile_sublist (l := l.reverse) (fun c => decide (c ≠ 10))).length_le
  rwa [List.length_reverse] at this
theorem count_S (l : List Nat) : Txt.count (S l) ⟨#[10]⟩ = (l.count 10 : Nat) := by
  rw [PyProof.Rows.count_cnt, S_cps]
  induction l with
  | nil => rfl
  | cons c r ih =>
    rw [PyProof.Rows.cnt_cons, ih, List.count_cons]
    by_cases e : c = 10 <;> simp [e] <;> omega
theorem tl_at {l : List Nat} : ∀ {i : Nat}, l[i]? = some 10 → (∀ k, i < k → l[k]? ≠ some 10) → tl l + i + 1 = l.length := by
  induction l using snocRec with
  | nil => intro i h _; simp at h
  | append_singleton l c ih =>
    intro i h hn
    rw [tl_snoc, List.length_append]
    by_cases e : c = 10
    · rw [if_pos e]
      have hi : i = l.length := by
        have h1 := (List.getElem?_eq_some_iff.mp h).1
        rw [List.length_append] at h1
        by_cases z : i < l.length
        · exact absurd (by rw [e]; simp) (hn l.length z)
        · simp at h1; omega
      simp; omega
    · rw [if_neg e]
      have hi : i < l.length := by
        have h1 := (List.getElem?_eq_some_iff.mp h).1
        rw [List.length_append] at h1
        by_cases z : i < l.length
        · exact z
        · have : i = l.length := by simp at h1; omega
          subst this
          simp at h
          exact absurd h e
      rw [List.getElem?_append_left hi] at h
      have := ih h fun k hk q => hn k hk (by rw [List.getElem?_append_left (List.getElem?_eq_some_iff.mp q).1]; exact q)
      simp; omega
theorem tl_none {l : List Nat} (h : 10 ∉ l) : tl l = l.length := by
  induction l using snocRec with
  | nil => rfl
  | append_singleton l c ih =>
    rw [tl_snoc, if_neg (fun e => h (by rw [e]; simp)), ih (fun q => h (List.mem_append_left _ q)), List.length_append]
    rfl
theorem rfind_S (l : List Nat) : Txt.rfind (S l) ⟨#[10]⟩ = (l.length : Int) - tl l - 1 := by
  unfold Txt.rfind
  have key : ∀ i, StrLaws.At (S l) ⟨#[10]⟩ (S l).length i ↔ l[i]? = some 10 := fun i => StrLaws.subAt_one (S l) 10 i
  rcases StrLaws.last_spec (S l) ⟨#[10]⟩ with ⟨e, h⟩ | ⟨i, e, h1, h2⟩
  · rw [e]
    have : tl l = l.length := tl_none fun q => by
      obtain ⟨i, hi⟩ := List.mem_iff_getElem?.mp q
      exact h i ((key i).mpr hi)
    show (-1 : Int) = _
    omega
  · rw [e]
    have := tl_at ((key i).mp h1) fun k hk q => h2 k hk ((key k).mpr q)
    show (i : Int) = _
    omega
theorem rows_len (l : List Nat) : (rows l).length = l.count 10 + 1 := by
  induction l with
  | nil => rfl
  | cons c r ih =>
    by_cases e : c = 10
    · rw [rows, if_pos e, List.length_cons, ih, e, List.count_cons_self]
    · obtain ⟨x, xs, e1, e2⟩ := rows_eq (l := r) e
      rw [e2]
      rw [e1] at ih
      rw [List.count_cons_of_ne e]
      exact ih
theorem rows_last (l : List Nat) : ∃ r, (rows l).getLast? = some r ∧ r.length = tl l := by
    induction l using snocRec with
    | nil => exact ⟨[], rfl, rfl⟩
    | append_singleton l c ih =>
      obtain ⟨r, h1, h2⟩ := ih
      have key : ∀ l : List Nat, rows (l ++ [c]) = if c = 10 then rows l ++ [[]] else (rows l).dropLast ++ [((rows l).getLast?.getD []) ++ [c]] := by
        intro l
        induction l with
        | nil =>
          by_cases e : c = 10
          · simp [rows, e]
          · simp [rows, e]
        | cons d l ih2 =>
          rw [List.cons_append, rows, ih2]
          by_cases e : d = 10
          · rw [if_pos e, rows, if_pos e]
            by_cases z : c = 10
            · rw [if_pos z, if_pos z]; rfl
            · rw [if_neg z, if_neg z]
              cases h : rows l with
              | nil => exact absurd h (rows_ne l)
              | cons x xs => simp
          · rw [if_neg e]
            obtain ⟨x, xs, e1, e2⟩ := rows_eq (l := l) e
            rw [e2, e1]
            by_cases z : c = 10
            · rw [if_pos z, if_pos z]; rfl
            · rw [if_neg z, if_neg z]
              cases xs with
              | nil => simp
              | cons y ys => simp
      rw [key, tl_snoc]
      by_cases e : c = 10
      · rw [if_pos e, if_pos e]
        exact ⟨[], by simp, rfl⟩
      · rw [if_neg e, if_neg e, h1]
        exact ⟨r ++ [c], by simp, by rw [List.length_append, h2]; rfl⟩
/-! ### scanning -/
abbrev LET : List Nat := [97, 98, 99, 100, 101, 102, 103, 104, 105, 106, 107, 108, 109, 110, 111, 112, 113, 114, 115, 116, 117, 118, 119, 120, 121, 122]
abbrev SGN : List Nat := [46, 63, 44]
/-- word, line, column -/
abbrev T3 := List Nat × Nat × Nat
structure Sc where
  done : List T3
  cur : List Nat
  ln : Nat
  co : Nat
def Sc.flush (s : Sc) : List T3 := if s.cur = [] then s.done else s.done ++ [(s.cur, s.ln, s.co - s.cur.length)]
def step (s : Sc) (c : Nat) : Sc :=
  if c ∈ LET then ⟨s.done, s.cur ++ [c], s.ln, s.co + 1⟩
  else if c = 10 then ⟨s.flush, [], s.ln + 1, 1⟩
  else if c ∈ SGN then ⟨s.flush ++ [([c], s.ln, s.co)], [], s.ln, s.co + 1⟩
  else ⟨s.flush, [], s.ln, s.co + 1⟩
/-- a row that begins at line n -/
def row (n : Nat) (l : List Nat) : Sc := l.foldl step ⟨[], [], n, 1⟩
def Good (c : Nat) : Prop := c ∈ LET ∨ c ∈ SGN ∨ c = 32 ∨ c = 10
instance : DecidablePred Good := fun c => by unfold Good; infer_instance
theorem row_snoc (n : Nat) (l : List Nat) (c : Nat) : row n (l ++ [c]) = step (row n l) c := by
  unfold row
  rw [List.foldl_append]
  rfl
theorem step_ln (s : Sc) (c : Nat) : (step s c).ln = s.ln + if c = 10 then 1 else 0 := by
  unfold step
  by_cases h1 : c ∈ LET
  · rw [if_pos h1, if_neg (by rintro rfl; exact absurd h1 (by decide))]
    rfl
  · rw [if_neg h1]
    by_cases h2 : c = 10
    · rw [if_pos h2, if_pos h2]
    · rw [if_neg h2, if_neg h2]
      split <;> rfl
theorem step_co (s : Sc) (c : Nat) : (step s c).co = if c = 10 then 1 else s.co + 1 := by
  unfold step
  by_cases h1 : c ∈ LET
  · rw [if_pos h1, if_neg (by rintro rfl; exact absurd h1 (by decide))]
  · rw [if_neg h1]
    by_cases h2 : c = 10
    · rw [if_pos h2, if_pos h2]
    · rw [if_neg h2, if_neg h2]
      split <;> rfl
theorem step10 (s : Sc) : step s 10 = ⟨s.flush, [], s.ln + 1, 1⟩ := by
  unfold step
  rw [if_neg (by decide), if_pos rfl]
theorem row_ln (n : Nat) (l : List Nat) : (row n l).ln = n + l.count 10 := by
  induction l using snocRec with
  | nil => rfl
  | append_singleton l c ih =>
    rw [row_snoc, step_ln, ih, List.count_append]
    by_cases e : c = 10 <;> simp [e] <;> omega
theorem row_co (n : Nat) (l : List Nat) : (row n l).co = tl l + 1 := by
  induction l using snocRec with
  | nil => rfl
  | append_singleton l c ih =>
    rw [row_snoc, step_co, ih, tl_snoc]
    by_cases e : c = 10 <;> simp [e]
/-- letters only -/
theorem fold_let : ∀ (w : List Nat) (s : Sc), (∀ c ∈ w, c ∈ LET) → w.foldl step s = ⟨s.done, s.cur ++ w, s.ln, s.co + w.length⟩
  | [], s, _ => by simp
  | c :: w, s, h => by
    rw [List.foldl_cons, fold_let w _ fun x hx => h x (List.mem_cons_of_mem _ hx)]
    have hc := h c (by simp)
    unfold step
    rw [if_pos hc]
    simp
    omega
theorem row_app (n : Nat) (l w : List Nat) : row n (l ++ w) = w.foldl step (row n l) := by
  unfold row
  rw [List.foldl_append]
theorem flush_app (d e : List T3) (cur : List Nat) (n k : Nat) : Sc.flush ⟨d ++ e, cur, n, k⟩ = d ++ Sc.flush ⟨e, cur, n, k⟩ := by
  unfold Sc.flush
  dsimp only
  split
  · rfl
  · rw [List.append_assoc]
/-- what is done stands ahead -/
theorem fold_pre (d : List T3) : ∀ (l : List Nat) (e : List T3) (cur : List Nat) (n k : Nat), l.foldl step ⟨d ++ e, cur, n, k⟩ = ⟨d ++ (l.foldl step ⟨e, cur, n, k⟩).done, (l.foldl step ⟨e, cur, n, k⟩).cur, (l.foldl step ⟨e, cur, n, k⟩).ln, (l.foldl step ⟨e, cur, n, k⟩).co⟩
  | [], e, cur, n, k => rfl
  | c :: l, e, cur, n, k => by
    rw [List.foldl_cons, List.foldl_cons]
    have : ∃ e' cur' n' k', step ⟨e, cur, n, k⟩ c = ⟨e', cur', n', k'⟩ ∧ step ⟨d ++ e, cur, n, k⟩ c = ⟨d ++ e', cur', n', k'⟩ := by
      unfold step
      split
      · exact ⟨_, _, _, _, rfl, rfl⟩
      · split
        · exact ⟨_, _, _, _, rfl, by rw [flush_app]⟩
        · split
          · exact ⟨_, _, _, _, rfl, by rw [flush_app, List.append_assoc]⟩
          · exact ⟨_, _, _, _, rfl, by rw [flush_app]⟩
    obtain ⟨e', cur', n', k', e1, e2⟩ := this
    rw [e1, e2]
    exact fold_pre d l e' cur' n' k'
/-- the tokens of rows, from line n on -/
def rowsToks : Nat → List (List Nat) → List T3
  | _, [] => []
  | n, r :: L => (row n r).flush ++ rowsToks (n + 1) L
theorem rowsToks_snoc (L : List (List Nat)) (r : List Nat) : ∀ n, rowsToks n (L ++ [r]) = rowsToks n L ++ (row (n + L.length) r).flush := by
  induction L with
  | nil => intro n; simp [rowsToks]
  | cons x L ih =>
    intro n
    rw [List.cons_append, rowsToks, ih, rowsToks, List.length_cons, List.append_assoc]
    congr 4
    omega
theorem toks_joined : ∀ (L : List (List Nat)) (d : List T3) (n : Nat), L ≠ [] → (∀ r ∈ L, 10 ∉ r) → ((joined L).foldl step ⟨d, [], n, 1⟩).flush = d ++ rowsToks n L
  | [], _, _, h, _ => absurd rfl h
  | [r], d, n, _, _ => by
    have := fold_pre d r [] [] n 1
    rw [List.append_nil] at this
    rw [joined, this, rowsToks, rowsToks, List.append_nil]
    exact flush_app _ _ _ _ _
  | r :: y :: L, d, n, _, hf => by
    have h1 := fold_pre d r [] [] n 1
    rw [List.append_nil] at h1
    have hl : (r.foldl step ⟨[], [], n, 1⟩).ln = n := by
      have := row_ln n r
      have h0 : r.count 10 = 0 := List.count_eq_zero.mpr (hf r (by simp))
      rw [h0] at this
      exact this
    rw [joined, List.foldl_append, List.foldl_cons, h1]
    have e : step ⟨d ++ (r.foldl step ⟨[], [], n, 1⟩).done, (r.foldl step ⟨[], [], n, 1⟩).cur, (r.foldl step ⟨[], [], n, 1⟩).ln, (r.foldl step ⟨[], [], n, 1⟩).co⟩ 10 = ⟨d ++ (row n r).flush, [], n + 1, 1⟩ := by
      rw [step10, flush_app]
      show (⟨d ++ (row n r).flush, [], (r.foldl step ⟨[], [], n, 1⟩).ln + 1, 1⟩ : Sc) = _
      rw [hl]
    rw [e, toks_joined (y :: L) _ (n + 1) (by simp) fun z hz => hf z (List.mem_cons_of_mem _ hz), List.append_assoc]
    rfl
/-- the tokens of a text -/
def toks (l : List Nat) : List T3 := (row 1 l).flush
theorem toks_rows (l : List Nat) : toks l = rowsToks 1 (rows l) := by
  have := toks_joined (rows l) [] 1 (rows_ne l) (rows_free l)
  rw [joined_rows] at this
  exact this
/-! ### how many letters lead -/
def lead (l : List Nat) : Nat := (l.takeWhile fun c => decide (c ∈ LET)).length
theorem lead_cons (c : Nat) (l : List Nat) : lead (c :: l) = if c ∈ LET then lead l + 1 else 0 := by
  unfold lead
  rw [List.takeWhile_cons]
  by_cases h : c ∈ LET
  · rw [if_pos h, if_pos (decide_eq_true h)]
    rfl
  · rw [if_neg h, if_neg (by rw [decide_eq_false h]; exact Bool.false_ne_true)]
    rfl
theorem lead_le : ∀ l, lead l ≤ l.length
  | [] => Nat.le_refl _
  | c :: l => by
    rw [lead_cons, List.length_cons]
    have := lead_le l
    split <;> omega
theorem lead_more : ∀ (l : List Nat) (j c : Nat), j ≤ lead l → l[j]? = some c → c ∈ LET → j + 1 ≤ lead l
  | [], _, _, _, h, _ => by simp at h
  | d :: l, 0, c, _, h, hc => by
    have : d = c := by simpa using h
    rw [lead_cons, this, if_pos hc]
    omega
  | d :: l, j + 1, c, hj, h, hc => by
    rw [lead_cons] at hj ⊢
    by_cases hd : d ∈ LET
    · rw [if_pos hd] at hj ⊢
      have := lead_more l j c (by omega) (by simpa using h) hc
      omega
    · rw [if_neg hd] at hj
      omega
theorem lead_stop : ∀ (l : List Nat) (j : Nat), j ≤ lead l → (∀ c, l[j]? = some c → c ∉ LET) → j = lead l
  | [], j, h, _ => by unfold lead at *; simp at h; simp [h]
  | d :: l, 0, _, h => by
    rw [lead_cons, if_neg (h d (by simp))]
  | d :: l, j + 1, hj, h => by
    rw [lead_cons] at hj ⊢
    by_cases hd : d ∈ LET
    · rw [if_pos hd] at hj ⊢
      have := lead_stop l j (by omega) fun c q => h c (by simpa using q)
      omega
    · rw [if_neg hd] at hj
      omega
theorem lead_let : ∀ (l : List Nat), ∀ c ∈ l.take (lead l), c ∈ LET
  | [], c, h => by simp at h
  | d :: l, c, h => by
    rw [lead_cons] at h
    by_cases hd : d ∈ LET
    · rw [if_pos hd, List.take_succ_cons] at h
      rcases List.mem_cons.mp h with z | z
      · rw [z]; exact hd
      · exact lead_let l c z
    · rw [if_neg hd] at h
      simp at h
theorem lead_next : ∀ (l : List Nat) (c : Nat), l[lead l]? = some c → c ∉ LET
  | [], c, h => by simp at h
  | d :: l, c, h => by
    rw [lead_cons] at h
    by_cases hd : d ∈ LET
    · rw [if_pos hd] at h
      exact lead_next l c (by simpa using h)
    · rw [if_neg hd] at h
      have : d = c := by simpa using h
      rw [← this]
      exact hd
/-! ### the steps of tokens_of_line -/
theorem no10 {r : List Nat} (h : 10 ∉ r) (k : Nat) : 10 ∉ r.take k := fun q => h (List.mem_of_mem_take q)
theorem row_at {n k : Nat} {r : List Nat} (h : 10 ∉ r) (hk : k ≤ r.length) : (row n (r.take k)).ln = n ∧ (row n (r.take k)).co = k + 1 := by
  refine ⟨?_, ?_⟩
  · rw [row_ln, List.count_eq_zero.mpr (no10 h k)]
    rfl
  · rw [row_co, tl_none (no10 h k), List.length_take, Nat.min_eq_left hk]
/-- a run of letters -/
theorem step_run {n k : Nat} {r : List Nat} (h : 10 ∉ r) (hk : k ≤ r.length) (hl : 0 < lead (r.drop k)) (hb : (row n (r.take k)).cur = [] ∨ ∀ c, r[k]? = some c → c ∉ LET) :
    (row n (r.take (k + lead (r.drop k)))).flush = (row n (r.take k)).flush ++ [((r.drop k).take (lead (r.drop k)), n, k + 1)] := by
  have hc : (row n (r.take k)).cur = [] := by
    rcases hb with h | h
    · exact h
    · exfalso
      have h1 : lead (r.drop k) ≤ (r.drop k).length := lead_le _
      have h2 : (r.drop k)[0]? = some (r.drop k)[0] := List.getElem?_eq_getElem (by omega)
      have h3 := lead_let (r.drop k) _ (List.mem_of_getElem? (i := 0) (by rw [List.getElem?_take_of_lt hl]; exact h2))
      refine h _ ?_ h3
      rw [List.getElem?_drop] at h2
      simpa using h2
  have hw : (r.drop k).take (lead (r.drop k)) ≠ [] := by
    intro z
    have := congrArg List.length z
    rw [List.length_take] at this
    have h1 : lead (r.drop k) ≤ (r.drop k).length := lead_le _
    simp at this
    simp at h1
    omega
  obtain ⟨e1, e2⟩ := row_at (n := n) h hk
  rw [List.take_add, row_app, fold_let _ _ (lead_let _), hc]
  unfold Sc.flush
  rw [hc, if_pos rfl]
  simp only [List.nil_append]
  rw [if_neg hw, e1, e2, Nat.add_sub_cancel]
/-- one sign, or a space -/
theorem step_one {n k c : Nat} {r : List Nat} (h : 10 ∉ r) (hc : r[k]? = some c) (hL : c ∉ LET) :
    (row n (r.take (k + 1))).flush = (row n (r.take k)).flush ++ (if c ∈ SGN then [([c], n, k + 1)] else []) ∧ (row n (r.take (k + 1))).cur = [] := by
  have hk : k ≤ r.length := Nat.le_of_lt (List.getElem?_eq_some_iff.mp hc).1
  obtain ⟨e1, e2⟩ := row_at (n := n) h hk
  have c10 : c ≠ 10 := fun z => h (by rw [← z]; exact List.mem_of_getElem? hc)
  rw [List.take_add_one, hc]
  show (row n (r.take k ++ [c])).flush = _ ∧ (row n (r.take k ++ [c])).cur = _
  rw [row_snoc]
  have key : step (row n (r.take k)) c = if c ∈ SGN then ⟨(row n (r.take k)).flush ++ [([c], n, k + 1)], [], n, k + 2⟩ else ⟨(row n (r.take k)).flush, [], n, k + 2⟩ := by
    show (if c ∈ LET then _ else if c = 10 then _ else if c ∈ SGN then _ else _) = _
    rw [if_neg hL, if_neg c10, e1, e2]
  rw [key]
  by_cases z : c ∈ SGN
  · rw [if_pos z, if_pos z]
    exact ⟨rfl, rfl⟩
  · rw [if_neg z, if_neg z, List.append_nil]
    exact ⟨rfl, rfl⟩
/-! ### where a row stands in its text -/
def ahead (L : List (List Nat)) : List Nat := (L.map (· ++ [10])).flatten
theorem joined_at : ∀ (L : List (List Nat)) (i : Nat), i < L.length → joined L = ahead (L.take i) ++ joined (L.drop i)
  | [], i, h => by simp at h
  | x :: L, 0, _ => rfl
  | [x], i + 1, h => by simp at h
  | x :: y :: L, i + 1, h => by
    have ih := joined_at (y :: L) i (by simpa using h)
    rw [joined, ih]
    simp [ahead]
theorem ahead_count : ∀ (L : List (List Nat)), (∀ r ∈ L, 10 ∉ r) → (ahead L).count 10 = L.length
  | [], _ => rfl
  | x :: L, h => by
    have ih := ahead_count L fun r hr => h r (List.mem_cons_of_mem _ hr)
    have h0 : x.count 10 = 0 := List.count_eq_zero.mpr (h x (by simp))
    show ((x ++ [10]) ++ ahead L).count 10 = _
    rw [List.count_append, List.count_append, ih, h0, List.length_cons]
    simp
    omega
theorem tl_end {q x : List Nat} (h : 10 ∉ x) : tl (q ++ 10 :: x) = x.length := by
  have := tl_at (l := q ++ 10 :: x) (i := q.length) (by simp) fun k hk e => by
    rw [List.getElem?_append_right (by omega)] at e
    obtain ⟨j, hj⟩ : ∃ j, k - q.length = j + 1 := ⟨k - q.length - 1, by omega⟩
    rw [hj] at e
    exact h (List.mem_of_getElem? (by simpa using e))
  rw [List.length_append, List.length_cons] at this
  omega
theorem ahead_tl : ∀ (L : List (List Nat)) (x : List Nat), 10 ∉ x → tl (ahead L ++ x) = x.length
  | [], x, h => tl_none h
  | y :: L, x, h => by
    have key : ∀ (M : List (List Nat)) (y : List Nat), ∃ q, ahead (y :: M) = q ++ [10] := by
      intro M
      induction M with
      | nil => intro y; exact ⟨y, by simp [ahead]⟩
      | cons z M ih =>
        intro y
        obtain ⟨q, hq⟩ := ih z
        refine ⟨y ++ [10] ++ q, ?_⟩
        show (y ++ [10]) ++ ahead (z :: M) = _
        rw [hq, List.append_assoc, List.append_assoc]
        simp
    obtain ⟨q, hq⟩ := key L y
    rw [hq, List.append_assoc]
    exact tl_end h
theorem mem_ahead {L : List (List Nat)} {c : Nat} (h : c ∈ ahead L) : c = 10 ∨ ∃ r ∈ L, c ∈ r := by
  unfold ahead at h
  obtain ⟨y, hy, hc⟩ := List.mem_flatten.mp h
  obtain ⟨r, hr, rfl⟩ := List.mem_map.mp hy
  rcases List.mem_append.mp hc with z | z
  · exact .inr ⟨r, hr, z⟩
  · exact .inl (List.mem_singleton.mp z)
theorem take_mid (A t : List Nat) {r : List Nat} {j : Nat} (hj : j ≤ r.length) : (A ++ (r ++ t)).take (A.length + j) = A ++ r.take j := by
  rw [List.take_append, List.take_of_length_le (by omega), Nat.add_sub_cancel_left, List.take_append_of_le_length hj]
theorem get_mid (A t : List Nat) {r : List Nat} {j : Nat} (hj : j < r.length) : (A ++ (r ++ t))[A.length + j]? = r[j]? := by
  rw [List.getElem?_append_right (by omega), Nat.add_sub_cancel_left, List.getElem?_append_left hj]
/-- a sign of a row, in the text -/
theorem row_place {l r : List Nat} {i j c : Nat} (hr : (rows l)[i]? = some r) (hc : r[j]? = some c) :
    ∃ k, l[k]? = some c ∧ l.take k = ahead ((rows l).take i) ++ r.take j ∧ (l.take k).count 10 = i ∧ tl (l.take k) = j := by
  have hi := (List.getElem?_eq_some_iff.mp hr).1
  have hj := (List.getElem?_eq_some_iff.mp hc).1
  have e1 := joined_at (rows l) i hi
  rw [joined_rows] at e1
  have e2 : ∃ t, joined ((rows l).drop i) = r ++ t := by
    rw [List.drop_eq_getElem_cons hi]
    have : (rows l)[i] = r := by
      rw [List.getElem?_eq_getElem hi] at hr
      exact Option.some.inj hr
    rw [this]
    cases (rows l).drop (i + 1) with
    | nil => exact ⟨[], by rw [joined, List.append_nil]⟩
    | cons y L => exact ⟨_, rfl⟩
  obtain ⟨t, e2⟩ := e2
  rw [e2] at e1
  have fr := rows_free l
  have h10 : 10 ∉ r := fr r (List.mem_of_getElem? hr)
  have e3 : l.take ((ahead ((rows l).take i)).length + j) = ahead ((rows l).take i) ++ r.take j := by
    have := take_mid (ahead ((rows l).take i)) t (Nat.le_of_lt hj)
    rwa [← e1] at this
  refine ⟨(ahead ((rows l).take i)).length + j, ?_, e3, ?_, ?_⟩
  · have := get_mid (ahead ((rows l).take i)) t hj
    rw [← e1] at this
    rw [this]
    exact hc
  · rw [e3, List.count_append, ahead_count _ fun r hr => fr r (List.mem_of_mem_take hr), List.count_eq_zero.mpr (no10 h10 j), List.length_take]
    omega
  · rw [e3, ahead_tl _ _ (no10 h10 j), List.length_take]
    omega
theorem mem_rows {l : List Nat} : ∀ {r : List Nat} {c : Nat}, r ∈ rows l → c ∈ r → c ∈ l := by
  induction l with
  | nil => intro r c h; simp [rows] at h; subst h; simp
  | cons d l ih =>
    intro r c hr hc
    by_cases e : d = 10
    · rw [rows, if_pos e] at hr
      rcases List.mem_cons.mp hr with z | z
      · subst z; simp at hc
      · exact List.mem_cons_of_mem _ (ih z hc)
    · obtain ⟨x, xs, e1, e2⟩ := rows_eq (l := l) e
      rw [e2] at hr
      rcases List.mem_cons.mp hr with z | z
      · subst z
        rcases List.mem_cons.mp hc with y | y
        · rw [y]; simp
        · exact List.mem_cons_of_mem _ (ih (by rw [e1]; simp) y)
      · exact List.mem_cons_of_mem _ (ih (by rw [e1]; exact List.mem_cons_of_mem _ z) hc)
theorem good_all {l : List Nat} (h : ∀ r ∈ rows l, ∀ c ∈ r, Good c) : ∀ c ∈ l, Good c := by
  intro c hc
  have e := joined_rows l
  have key : ∀ (L : List (List Nat)), (∀ r ∈ L, ∀ c ∈ r, Good c) → ∀ c ∈ joined L, Good c := by
    intro L
    induction L with
    | nil => intro _ c hc; simp [joined] at hc
    | cons x L ih =>
      intro hL c hc
      cases L with
      | nil => exact hL x (by simp) c hc
      | cons y L =>
        rw [joined] at hc
        rcases List.mem_append.mp hc with z | z
        · exact hL x (by simp) c z
        · rcases List.mem_cons.mp z with z | z
          · exact .inr (.inr (.inr z))
          · exact ih (fun r hr => hL r (List.mem_cons_of_mem _ hr)) c z
  rw [← e] at hc
  exact key _ h c hc
theorem rows_short (l : List Nat) : ∀ r ∈ rows l, r.length ≤ l.length := by
  induction l with
  | nil => intro r h; simp [rows] at h; subst h; simp
  | cons d l ih =>
    intro r hr
    rw [List.length_cons]
    by_cases e : d = 10
    · rw [rows, if_pos e] at hr
      rcases List.mem_cons.mp hr with z | z
      · subst z; simp
      · have := ih r z; omega
    · obtain ⟨x, xs, e1, e2⟩ := rows_eq (l := l) e
      rw [e2] at hr
      rcases List.mem_cons.mp hr with z | z
      · subst z
        have := ih x (by rw [e1]; simp)
        rw [List.length_cons]; omega
      · have := ih r (by rw [e1]; exact List.mem_cons_of_mem _ z); omega
/-! ### how many tokens -/
theorem flush_step (s : Sc) (c : Nat) : (step s c).flush.length ≤ s.flush.length + 1 := by
  have key : s.done.length ≤ s.flush.length ∧ (s.cur ≠ [] → s.flush.length = s.done.length + 1) := by
    unfold Sc.flush
    by_cases h : s.cur = []
    · rw [if_pos h]
      exact ⟨Nat.le_refl _, fun z => absurd h z⟩
    · rw [if_neg h, List.length_append]
      exact ⟨by simp, fun _ => rfl⟩
  have f0 : ∀ (d : List T3) (n k : Nat), Sc.flush ⟨d, [], n, k⟩ = d := fun d n k => by unfold Sc.flush; rw [if_pos rfl]
  show (Sc.flush (if c ∈ LET then _ else if c = 10 then _ else if c ∈ SGN then _ else _)).length ≤ _
  split
  · unfold Sc.flush
    dsimp only
    rw [if_neg (by simp), List.length_append]
    have := key.1
    simp
    by_cases h : s.cur = []
    · rw [if_pos h]; exact Nat.le_refl _
    · rw [if_neg h, List.length_append]; simp
  · split
    · rw [f0]; omega
    · split
      · rw [f0, List.length_append]; simp
      · rw [f0]; omega
theorem flush_len (n : Nat) (l : List Nat) : (row n l).flush.length ≤ l.length := by
  induction l using snocRec with
  | nil => exact Nat.le_refl _
  | append_singleton l c ih =>
    rw [row_snoc, List.length_append]
    have := flush_step (row n l) c
    simp
    omega
theorem rowsToks_len : ∀ (L : List (List Nat)) (n : Nat), (rowsToks n L).length ≤ (ahead L).length
  | [], _ => Nat.le_refl _
  | r :: L, n => by
    have h1 := flush_len n r
    have h2 := rowsToks_len L (n + 1)
    rw [rowsToks, List.length_append]
    show _ ≤ ((r ++ [10]) ++ ahead L).length
    rw [List.length_append, List.length_append]
    omega
theorem ahead_row {l r : List Nat} {i : Nat} (hr : (rows l)[i]? = some r) : (ahead ((rows l).take i)).length + r.length ≤ l.length := by
  have hi := (List.getElem?_eq_some_iff.mp hr).1
  have e1 := joined_at (rows l) i hi
  rw [joined_rows] at e1
  have e2 : r.length ≤ (joined ((rows l).drop i)).length := by
    rw [List.drop_eq_getElem_cons hi]
    have : (rows l)[i] = r := by
      rw [List.getElem?_eq_getElem hi] at hr
      exact Option.some.inj hr
    rw [this]
    cases (rows l).drop (i + 1) with
    | nil => exact Nat.le_refl _
    | cons y L => rw [joined, List.length_append]; omega
  have := congrArg List.length e1
  rw [List.length_append] at this
  omega
/-! ### texts made word by word -/
theorem row0 (n : Nat) : row n [] = ⟨[], [], n, 1⟩ := rfl
theorem gap_row (n : Nat) (l g : List Nat) (hg : ∀ c ∈ g, c = 32 ∨ c = 10) : (row n (l ++ g)).flush = (row n l).flush ∧ (g ≠ [] → (row n (l ++ g)).cur = []) := by
  induction g using snocRec with
  | nil => rw [List.append_nil]; exact ⟨rfl, fun h => absurd rfl h⟩
  | append_singleton g c ih =>
    obtain ⟨h1, _⟩ := ih fun d hd => hg d (List.mem_append_left _ hd)
    have hc := hg c (by simp)
    rw [← List.append_assoc, row_snoc]
    have f0 : ∀ (d : List T3) (n k : Nat), Sc.flush ⟨d, [], n, k⟩ = d := fun d n k => by unfold Sc.flush; rw [if_pos rfl]
    rcases hc with rfl | rfl
    · show (Sc.flush (if (32 : Nat) ∈ LET then _ else if (32 : Nat) = 10 then _ else if (32 : Nat) ∈ SGN then _ else _)) = _ ∧ (_ → Sc.cur (if (32 : Nat) ∈ LET then _ else if (32 : Nat) = 10 then _ else if (32 : Nat) ∈ SGN then _ else _) = _)
      rw [if_neg (by decide), if_neg (by decide), if_neg (by decide), f0]
      exact ⟨h1, fun _ => rfl⟩
    · rw [step10, f0]
      exact ⟨h1, fun _ => rfl⟩
/-- a text and what was told of it; b: a word of letters stands last -/
structure Told (l : List Nat) (ts : List T3) (b : Bool) : Prop where
  good : ∀ c ∈ l, Good c
  toks : toks l = ts
  cur : b = false → (row 1 l).cur = []
theorem Told.gap {l g : List Nat} {ts : List T3} {b : Bool} (h : Told l ts b) (hg : ∀ c ∈ g, c = 32 ∨ c = 10) : (∀ c ∈ l ++ g, Good c) ∧ Tk.toks (l ++ g) = ts ∧ ((g ≠ [] ∨ b = false) → (row 1 (l ++ g)).cur = []) := by
  obtain ⟨h1, h2⟩ := gap_row 1 l g hg
  refine ⟨fun c hc => ?_, h1.trans h.toks, fun z => ?_⟩
  · rcases List.mem_append.mp hc with y | y
    · exact h.good c y
    · exact .inr (.inr (hg c y))
  · by_cases e : g = []
    · rw [e, List.append_nil]
      exact h.cur (z.resolve_left fun q => q e)
    · exact h2 e
theorem Told.first {g : List Nat} (hg : ∀ c ∈ g, c = 32 ∨ c = 10) : Told g [] false := by
  have h := gap_row 1 [] g hg
  rw [List.nil_append] at h
  refine ⟨fun c hc => .inr (.inr (hg c hc)), h.1, fun _ => ?_⟩
  by_cases e : g = []
  · rw [e]; rfl
  · exact h.2 e
/-- one turn: a gap and a word -/
theorem Told.word {l g w : List Nat} {ts : List T3} {b : Bool} (h : Told l ts b) (hg : ∀ c ∈ g, c = 32 ∨ c = 10) (hn : b = true → g ≠ []) (hw : w ≠ []) (hL : ∀ c ∈ w, c ∈ LET) :
    Told (l ++ g ++ w) (ts ++ [(w, 1 + (l ++ g).count 10, tl (l ++ g) + 1)]) true := by
  obtain ⟨h1, h2, h3⟩ := h.gap hg
  have hc := h3 (by cases b with
    | true => exact .inl (hn rfl)
    | false => exact .inr rfl)
  have e1 := row_ln 1 (l ++ g)
  have e2 := row_co 1 (l ++ g)
  refine ⟨fun c hc => ?_, ?_, fun z => by cases z⟩
  · rcases List.mem_append.mp hc with y | y
    · exact h1 c y
    · exact .inl (hL c y)
  · unfold Tk.toks at h2 ⊢
    rw [row_app, fold_let _ _ hL, ← h2, hc, e1, e2]
    unfold Sc.flush
    rw [hc, if_pos rfl]
    simp only [List.nil_append]
    rw [if_neg hw, Nat.add_sub_cancel]
/-- .. a gap and a sign -/
theorem Told.sign {l g : List Nat} {c : Nat} {ts : List T3} {b : Bool} (h : Told l ts b) (hg : ∀ c ∈ g, c = 32 ∨ c = 10) (hS : c ∈ SGN) :
    Told (l ++ g ++ [c]) (ts ++ [([c], 1 + (l ++ g).count 10, tl (l ++ g) + 1)]) false := by
  obtain ⟨h1, h2, h3⟩ := h.gap hg
  have e1 := row_ln 1 (l ++ g)
  have e2 := row_co 1 (l ++ g)
  have hL : c ∉ LET := fun z => by
    have : ∀ c ∈ SGN, c ∉ LET := by decide
    exact this c hS z
  have h10 : c ≠ 10 := by rintro rfl; exact absurd hS (by decide)
  have key : row 1 (l ++ g ++ [c]) = ⟨(row 1 (l ++ g)).flush ++ [([c], (row 1 (l ++ g)).ln, (row 1 (l ++ g)).co)], [], (row 1 (l ++ g)).ln, (row 1 (l ++ g)).co + 1⟩ := by
    rw [row_snoc]
    show (if c ∈ LET then _ else if c = 10 then _ else if c ∈ SGN then _ else _) = _
    rw [if_neg hL, if_neg h10, if_pos hS]
  refine ⟨fun d hd => ?_, ?_, fun _ => by rw [key]⟩
  · rcases List.mem_append.mp hd with y | y
    · exact h1 d y
    · rw [List.mem_singleton.mp y]; exact .inr (.inl hS)
  · unfold Tk.toks at h2 ⊢
    rw [key, e1, e2, h2]
    unfold Sc.flush
    rw [if_pos rfl]
/-- an end -/
theorem Told.fin {l g : List Nat} {ts : List T3} {b : Bool} (h : Told l ts b) (hg : ∀ c ∈ g, c = 32 ∨ c = 10) : (∀ c ∈ l ++ g, Good c) ∧ Tk.toks (l ++ g) = ts := ⟨(h.gap hg).1, (h.gap hg).2.1⟩
/-! ### what tokens are made of; the first sign that is none -/
theorem step_of {s : Sc} {c : Nat} (h : (∀ t ∈ s.done, ∀ d ∈ t.1, d < 200) ∧ ∀ d ∈ s.cur, d < 200) : (∀ t ∈ (step s c).done, ∀ d ∈ t.1, d < 200) ∧ ∀ d ∈ (step s c).cur, d < 200 := by
  have hf : ∀ t ∈ s.flush, ∀ d ∈ t.1, d < 200 := by
    intro t ht d hd
    unfold Sc.flush at ht
    split at ht
    · exact h.1 t ht d hd
    · rcases List.mem_append.mp ht with z | z
      · exact h.1 t z d hd
      · rw [List.mem_singleton.mp z] at hd
        exact h.2 d hd
  show (∀ t ∈ (if c ∈ LET then _ else if c = 10 then _ else if c ∈ SGN then _ else _ : Sc).done, _) ∧ _
  have key : step s c = if c ∈ LET then ⟨s.done, s.cur ++ [c], s.ln, s.co + 1⟩ else if c = 10 then ⟨s.flush, [], s.ln + 1, 1⟩ else if c ∈ SGN then ⟨s.flush ++ [([c], s.ln, s.co)], [], s.ln, s.co + 1⟩ else ⟨s.flush, [], s.ln, s.co + 1⟩ := rfl
  rw [← key, key]
  by_cases h1 : c ∈ LET
  · rw [if_pos h1]
    refine ⟨h.1, fun d hd => ?_⟩
    rcases List.mem_append.mp hd with z | z
    · exact h.2 d z
    · rw [List.mem_singleton.mp z]
      have : ∀ c ∈ LET, c < 200 := by decide
      exact this c h1
  · rw [if_neg h1]
    by_cases h2 : c = 10
    · rw [if_pos h2]
      exact ⟨hf, by simp⟩
    · rw [if_neg h2]
      by_cases h3 : c ∈ SGN
      · rw [if_pos h3]
        refine ⟨fun t ht d hd => ?_, by simp⟩
        rcases List.mem_append.mp ht with z | z
        · exact hf t z d hd
        · rw [List.mem_singleton.mp z] at hd
          rw [List.mem_singleton.mp hd]
          have : ∀ c ∈ SGN, c < 200 := by decide
          exact this c h3
      · rw [if_neg h3]
        exact ⟨hf, by simp⟩
theorem toks_of (l : List Nat) : ∀ t ∈ toks l, ∀ d ∈ t.1, d < 200 := by
  have key : (∀ t ∈ (row 1 l).done, ∀ d ∈ t.1, d < 200) ∧ ∀ d ∈ (row 1 l).cur, d < 200 := by
    induction l using snocRec with
    | nil => exact ⟨by simp [row0], by simp [row0]⟩
    | append_singleton l c ih =>
      rw [row_snoc]
      exact step_of ih
  intro t ht d hd
  unfold toks Sc.flush at ht
  split at ht
  · exact key.1 t ht d hd
  · rcases List.mem_append.mp ht with z | z
    · exact key.1 t z d hd
    · rw [List.mem_singleton.mp z] at hd
      exact key.2 d hd
/-- the place of the first sign that is none -/
def First (l : List Nat) (k : Nat) : Prop := (∃ c, l[k]? = some c ∧ ¬ Good c) ∧ ∀ d ∈ l.take k, Good d
theorem first_uniq {l : List Nat} {j k : Nat} (h1 : First l j) (h2 : First l k) : j = k := by
  have key : ∀ {j k : Nat}, First l j → First l k → ¬ j < k := fun {j k} h1 h2 hlt => by
    obtain ⟨c, hc, hb⟩ := h1.1
    exact hb (h2.2 c (List.mem_of_getElem? (i := j) (by rw [List.getElem?_take_of_lt hlt]; exact hc)))
  have a := key h1 h2
  have b := key h2 h1
  omega
theorem first_put {l : List Nat} {n c : Nat} (hl : ∀ d ∈ l, Good d) (hn : n ≤ l.length) (hc : ¬ Good c) : First (l.take n ++ [c] ++ l.drop n) n := by
  have hln : (l.take n).length = n := by rw [List.length_take]; omega
  refine ⟨⟨c, ?_, hc⟩, fun d hd => ?_⟩
  · rw [List.append_assoc, List.getElem?_append_right (by omega), hln, Nat.sub_self]
    rfl
  · rw [List.append_assoc, List.take_append_of_le_length (by omega), List.take_of_length_le (by omega)] at hd
    exact hl d (List.mem_of_mem_take hd)
end Tk
set_option Elab.async false
set_option linter.all false
set_option maxRecDepth 100000
set_option maxHeartbeats 4000000
/-! what _law_plain makes can be compared -/
namespace Tw
open PySem PySem.Spec
theorem str_lay (x : Str) (h : ∀ c ∈ x.cps.toList, c < 0x110000) : PyData.canLay0 (.str x) = true := by
  show (x.cps.all fun c => decide (c < 0x110000)) = true
  rw [← Array.all_toList, List.all_eq_true]
  exact fun c hc => decide_eq_true (h c hc)
mutual
theorem plain_lay : ∀ d : PyData, d.canLay0 = true → (plainD d).canLay0 = true
  | .none, _ => by rw [plainD]; decide +kernel
  | .bool b, _ => by rw [plainD]; cases b <;> decide +kernel
  | .int i, _ => by rw [plainD]; rfl
  | .str s, h => by
    rw [plainD]
    show (true && (PyData.canLay0 (.str s) && true)) = true
    rw [h]; rfl
  | .list xs, h => by
    rw [plainD]
    show (true && PyData.canLayAll0 (plainAll xs)) = true
    rw [plainAll_lay xs h]; rfl
  | .tuple xs, h => by
    rw [plainD]
    show (true && PyData.canLayAll0 (plainAll xs)) = true
    rw [plainAll_lay xs h]; rfl
  | .dict _, h => by cases h
theorem plainAll_lay : ∀ ds : List PyData, PyData.canLayAll0 ds = true → PyData.canLayAll0 (plainAll ds) = true
  | [], _ => by rw [plainAll]; rfl
  | d :: ds, h => by
    obtain ⟨h1, h2⟩ := Bool.and_eq_true_iff.mp (show (PyData.canLay0 d && PyData.canLayAll0 ds) = true from h)
    rw [plainAll]
    show (PyData.canLay0 (plainD d) && PyData.canLayAll0 (plainAll ds)) = true
    rw [plain_lay d h1, plainAll_lay ds h2]; rfl
end
mutual
theorem plain_depth : ∀ d : PyData, (plainD d).depth ≤ d.depth + 1
  | .none => by rw [plainD]; exact Nat.zero_le _
  | .bool b => by rw [plainD]; exact Nat.zero_le _
  | .int i => by rw [plainD]; exact Nat.le_refl _
  | .str s => by rw [plainD]; exact Nat.le_refl _
  | .list xs => by
    rw [plainD]
    have := plainAll_depth xs
    show max 0 (PyData.depthAll (plainAll xs)) + 1 ≤ PyData.depthAll xs + 1 + 1
    omega
  | .tuple xs => by
    rw [plainD]
    have := plainAll_depth xs
    show max 0 (PyData.depthAll (plainAll xs)) + 1 ≤ PyData.depthAll xs + 1 + 1
    omega
  | .dict _ => by rw [plainD]; exact Nat.zero_le _
theorem plainAll_depth : ∀ ds : List PyData, PyData.depthAll (plainAll ds) ≤ PyData.depthAll ds + 1
  | [] => by rw [plainAll]; exact Nat.zero_le _
  | d :: ds => by
    have h1 := plain_depth d
    have h2 := plainAll_depth ds
    rw [plainAll]
    show max (PyData.depth (plainD d)) (PyData.depthAll (plainAll ds)) ≤ max (PyData.depth d) (PyData.depthAll ds) + 1
    omega
end
theorem plain_shaped {d : PyData} (h : d.canLay0 = true) (hd : d.depth ≤ 60) : SeqAt.shaped (plainD d) = true := by
  have := plain_depth d
  show (PyData.canLay0 (plainD d) && decide ((plainD d).depth ≤ 64)) = true
  rw [plain_lay d h, decide_eq_true (by omega)]
  rfl
theorem layAll {ds : List PyData} (h : ∀ d ∈ ds, d.canLay0 = true) : PyData.canLayAll0 ds = true := by
  induction ds with
  | nil => rfl
  | cons d ds ih =>
    show (PyData.canLay0 d && PyData.canLayAll0 ds) = true
    rw [h d (by simp), ih fun x hx => h x (List.mem_cons_of_mem _ hx)]
    rfl
theorem depthAll_le {ds : List PyData} {n : Nat} (h : ∀ d ∈ ds, d.depth ≤ n) : PyData.depthAll ds ≤ n := by
  induction ds with
  | nil => exact Nat.zero_le _
  | cons d ds ih =>
    have h1 := h d (by simp)
    have h2 := ih fun x hx => h x (List.mem_cons_of_mem _ hx)
    show max (PyData.depth d) (PyData.depthAll ds) ≤ n
    omega
end Tw
set_option Elab.async false
set_option linter.all false
set_option maxRecDepth 100000
set_option maxHeartbeats 4000000
/-! lexicons: the plain law -/
namespace Lx
open PySem Tw Tk
/-! ### a text's parts between a sign -/
def parts (s : Nat) : List Nat → List (List Nat)
  | [] => [[]]
  | c :: r => if c = s then [] :: parts s r else match parts s r with
    | x :: xs => (c :: x) :: xs
    | [] => [[c]]
theorem parts_ne (s : Nat) (l : List Nat) : parts s l ≠ [] := by
  cases l with
  | nil => simp [parts]
  | cons c r =>
    unfold parts
    split
    · simp
    · split <;> simp
def joinC (s : Nat) : List (List Nat) → List Nat
  | [] => []
  | [x] => x
  | x :: y :: r => x ++ s :: joinC s (y :: r)
theorem parts_one {s : Nat} : ∀ x : List Nat, s ∉ x → parts s x = [x] := by
  intro x
  induction x with
  | nil => intro _; rfl
  | cons c r ih =>
    intro h
    have hc : c ≠ s := fun e => h (by rw [e]; simp)
    rw [parts, if_neg hc, ih fun q => h (List.mem_cons_of_mem _ q)]
theorem parts_app {s : Nat} : ∀ x : List Nat, s ∉ x → ∀ t, parts s (x ++ s :: t) = x :: parts s t := by
  intro x
  induction x with
  | nil => intro _ t; rw [List.nil_append, parts, if_pos rfl]
  | cons c q ih =>
    intro h t
    have hc : c ≠ s := fun e => h (by rw [e]; simp)
    rw [List.cons_append, parts, if_neg hc, ih (fun z => h (List.mem_cons_of_mem _ z)) t]
theorem parts_join {s : Nat} : ∀ (L : List (List Nat)), L ≠ [] → (∀ r ∈ L, s ∉ r) → parts s (joinC s L) = L
  | [], h, _ => absurd rfl h
  | [x], _, hf => parts_one x (hf x (by simp))
  | x :: y :: r, _, hf => by
    rw [joinC, parts_app x (hf x (by simp)), parts_join (y :: r) (by simp) fun z hz => hf z (List.mem_cons_of_mem _ hz)]
theorem joinC_S (s : Nat) : ∀ (L : List (List Nat)), Str.join (⟨#[s]⟩ : Str) (L.map S) = S (joinC s L)
  | [] => rfl
  | [x] => rfl
  | x :: y :: r => by
    show S x ++ (⟨#[s]⟩ : Str) ++ Str.join _ ((y :: r).map S) = _
    rw [joinC_S s (y :: r), S_add1, S_add, joinC]
    simp
theorem split_parts (s : Nat) (l : List Nat) : Txt.split (S l) ⟨#[s]⟩ = (parts s l).map S := by
  have hj := StrLaws.join_split (S l) ⟨#[s]⟩
  have hf := StrLaws.split_free (S l) s
  have hp := PyProof.Rows.split_pos (S l) ⟨#[s]⟩
  generalize Txt.split (S l) ⟨#[s]⟩ = L at hj hf hp
  have e : L = (L.map fun z : Str => z.cps.toList).map S := by
    rw [List.map_map]
    have : (S ∘ fun z : Str => z.cps.toList) = id := by funext z; exact (S_of z).symm
    rw [this, List.map_id]
  rw [e, joinC_S] at hj
  have h2 := S_inj.mp hj
  have h3 := parts_join (s := s) (L.map fun z : Str => z.cps.toList) (by intro q; rw [List.map_eq_nil_iff] at q; subst q; simp at hp) fun r hr => by
    obtain ⟨z, hz, rfl⟩ := List.mem_map.mp hr
    exact hf z hz
  rw [h2] at h3
  rw [h3]
  exact e
theorem join_parts (s : Nat) (L : List (List Nat)) : Txt.join (⟨#[s]⟩ : Str) (L.map S) = S (joinC s L) := by
  show Builtin.Str.glued _ _ = _
  rw [StrLaws.glued_eq_join, joinC_S]
theorem parts_short (s : Nat) (l : List Nat) : ∀ r ∈ parts s l, r.length ≤ l.length := by
  induction l with
  | nil => intro r h; simp [parts] at h; subst h; simp
  | cons d l ih =>
    intro r hr
    rw [List.length_cons]
    by_cases e : d = s
    · rw [parts, if_pos e] at hr
      rcases List.mem_cons.mp hr with z | z
      · subst z; simp
      · have := ih r z; omega
    · rw [parts, if_neg e] at hr
      cases h : parts s l with
      | nil => exact absurd h (parts_ne s l)
      | cons x xs =>
        rw [h] at hr ih
        rcases List.mem_cons.mp hr with z | z
        · subst z
          have := ih x (by simp)
          rw [List.length_cons]; omega
        · have := ih r (List.mem_cons_of_mem _ z); omega
theorem parts_len (s : Nat) (l : List Nat) : (parts s l).length ≤ l.length + 1 := by
  induction l with
  | nil => simp [parts]
  | cons d l ih =>
    rw [List.length_cons]
    by_cases e : d = s
    · rw [parts, if_pos e, List.length_cons]; omega
    · rw [parts, if_neg e]
      cases h : parts s l with
      | nil => exact absurd h (parts_ne s l)
      | cons x xs => rw [h] at ih; rw [List.length_cons] at ih ⊢; omega
/-! ### entries -/
def sN (s : String) : List Nat := (Str.ofString s).cps.toList
theorem S_sN (s : String) : Str.ofString s = S (sN s) := S_of _
/-- an entry: kind, stems, the person of a name -/
structure Ent where
  k : List Nat
  n : List Nat
  f : List Nat
  p : Option (List Nat)
deriving DecidableEq
def stem (w : List Nat) : Bool := decide (1 ≤ w.length) && decide (w.length ≤ 12) && w.all fun c => decide (c ∈ LET)
def kinds3 : List (List Nat) := [sN "noun", sN "adj", sN "verb"]
def persons : List (List Nat) := [sN "he", sN "she", sN "it"]
def entW : List (List Nat) → Option Ent
  | [k, n, f] => if k ∈ kinds3 ∧ stem n = true ∧ stem f = true then some ⟨k, n, f, none⟩ else none
  | [k, n, f, p] => if k = sN "name" ∧ stem n = true ∧ stem f = true ∧ p ∈ persons then some ⟨k, n, f, some p⟩ else none
  | _ => none
def entryOf (l : List Nat) : Option Ent := entW (parts 32 l)
theorem entW_bad {W : List (List Nat)} (h : ∀ k n f rest, W = k :: n :: f :: rest → stem n = true → stem f = true → ((k ∈ kinds3 ∧ rest = []) ∨ (k = sN "name" ∧ ∃ x ∈ persons, rest = [x])) → False) : entW W = none := by
  unfold entW
  split
  · rename_i k n f
    rw [if_neg]
    rintro ⟨h1, h2, h3⟩
    exact h k n f [] rfl h2 h3 (.inl ⟨h1, rfl⟩)
  · rename_i k n f p
    rw [if_neg]
    rintro ⟨h1, h2, h3, h4⟩
    exact h k n f [p] rfl h2 h3 (.inr ⟨h1, p, h4, rfl⟩)
  · rfl
theorem name_kinds : sN "name" ∉ kinds3 := by decide +kernel
/-! ### lexicons -/
def nearC : List (List Nat) := ["every", "no", "some", "a", "an", "thing", "things", "is", "are", "not", "that", "and", "only", "at", "least", "most", "exactly", "two", "three", "four", "five", "six", "seven", "eight", "nine", "does", "do", "who", "how", "many", "why", "he", "she", "it", "so"].map sN
def farC : List (List Nat) := ["kai", "ei", "jo", "yk", "jukk", "jukklar", "jukkan", "jukklaran", "vain", "vah", "kor", "tas", "kas", "kol", "nel", "vis", "kus", "sei", "kah", "yhe", "li", "ka", "ol", "olt", "mol", "molt", "ku", "mon", "mik", "kin", "se"].map sN
def closed (r : Ent) : Bool := decide (r.n ∈ nearC) || decide (r.f ∈ farC)
/-- the entry r has the key -/
def HasKey (r : Ent) (k lang s : List Nat) : Prop := r.k = k ∧ ((lang = sN "near" ∧ r.n = s) ∨ (lang = sN "far" ∧ r.f = s))
def ThingKey (k lang s : List Nat) : Prop := k = sN "noun" ∧ ((lang = sN "near" ∧ s = sN "thing") ∨ (lang = sN "far" ∧ s = sN "jukk"))
def Taken (rows : List Ent) (k lang s : List Nat) : Prop := ThingKey k lang s ∨ ∃ (i : Nat) (r : Ent), rows[i]? = some r ∧ HasKey r k lang s
/-- one line more: the entries, or why not -/
inductive Add : List Ent → List Nat → Option (List Ent) → String → Prop where
  | form {rows l} (h : entryOf l = none) : Add rows l none "form"
  | closed {rows l r} (h : entryOf l = some r) (c : closed r = true) : Add rows l none "closed"
  | twice {rows l r} (h : entryOf l = some r) (c : closed r = false) (t : Taken rows r.k (sN "near") r.n ∨ Taken rows r.k (sN "far") r.f) : Add rows l none "twice"
  | ok {rows l r} (h : entryOf l = some r) (c : closed r = false) (t1 : ¬ Taken rows r.k (sN "near") r.n) (t2 : ¬ Taken rows r.k (sN "far") r.f) : Add rows l (some (rows ++ [r])) ""
/-- all lines -/
inductive Built : List Ent → List (List Nat) → List Ent → Prop where
  | nil {rows} : Built rows [] rows
  | cons {rows rows' res l ls} (a : Add rows l (some rows') "") (b : Built rows' ls res) : Built rows (l :: ls) res
inductive Fails : List Ent → Nat → List (List Nat) → String → Nat → Prop where
  | here {rows l ls z k} (a : Add rows l none z) : Fails rows k (l :: ls) z k
  | later {rows rows' l ls z k m} (a : Add rows l (some rows') "") (b : Fails rows' (k + 1) ls z m) : Fails rows k (l :: ls) z m
theorem Built.snoc {rows rows1 rows2 : List Ent} {pre : List (List Nat)} {l : List Nat} (b : Built rows pre rows1) (a : Add rows1 l (some rows2) "") : Built rows (pre ++ [l]) rows2 := by
  induction b with
  | nil => exact .cons a .nil
  | cons a1 _ ih => exact .cons a1 (ih a)
theorem Built.fails {rows rows1 : List Ent} {pre post : List (List Nat)} {z : String} {k m : Nat} (b : Built rows pre rows1) (f : Fails rows1 (k + pre.length) post z m) : Fails rows k (pre ++ post) z m := by
  induction b generalizing k with
  | nil => exact f
  | @cons rows rows' res l ls a1 _ ih =>
    refine .later a1 (ih ?_)
    rw [List.length_cons] at f
    have e : k + 1 + ls.length = k + (ls.length + 1) := by omega
    rw [e]
    exact f
theorem Add.len {rows rows' : List Ent} {l : List Nat} {z : String} (a : Add rows l (some rows') z) : rows'.length = rows.length + 1 := by
  cases a with
  | ok h c t1 t2 => simp
theorem Built.len {rows res : List Ent} {ls : List (List Nat)} (b : Built rows ls res) : res.length = rows.length + ls.length := by
  induction b with
  | nil => rfl
  | cons a _ ih => rw [ih, a.len, List.length_cons]; omega
end Lx
set_option Elab.async false
set_option linter.all false
set_option maxRecDepth 100000
set_option maxHeartbeats 4000000
/-! the words that the laws of lexicons draw from; rows that go together -/
namespace Lx
open PySem PySem.Spec PyProof.Rows Tw Tk
def nounS : List (String × String) := [("cat", "kissa"), ("dog", "koira"), ("bird", "lintu"), ("box", "tele"), ("city", "vene"), ("owl", "polm")]
def adjS : List (String × String) := [("red", "punan"), ("old", "vanh"), ("big", "iso"), ("ill", "sairel"), ("wet", "kost")]
def verbS : List (String × String) := [("see", "nak"), ("know", "tunt"), ("touch", "sieg"), ("carry", "vie")]
def nameS : List (String × String) := [("ann", "anna"), ("bob", "bobi"), ("eve", "evel"), ("kit", "kitt")]
def noRow (k : String) (ps : List (String × String)) : List Ent := ps.map fun q => ⟨sN k, sN q.1, sN q.2, none⟩
def allRows : List Ent := noRow "noun" nounS ++ (noRow "adj" adjS ++ (noRow "verb" verbS ++ nameS.flatMap fun q => ["he", "she", "it"].map fun p => ⟨sN "name", sN q.1, sN q.2, some (sN p)⟩))
/-- the text of a line -/
def lineOf (r : Ent) : List Nat := joinC 32 (r.k :: r.n :: r.f :: r.p.toList)
theorem all_fit : ∀ r ∈ allRows, entryOf (lineOf r) = some r ∧ closed r = false ∧ r.n ≠ sN "thing" ∧ r.f ≠ sN "jukk" ∧ r.k.length ≤ 12 ∧ r.n.length ≤ 12 ∧ r.f.length ≤ 12 ∧ (∀ p ∈ r.p.toList, p.length ≤ 12) ∧ r.k ∈ ["noun", "adj", "verb", "name"].map sN := by decide +kernel
def Dst (a b : Ent) : Prop := a.k = b.k → a.n ≠ b.n ∧ a.f ≠ b.f
theorem Dst.symm {a b : Ent} (h : Dst a b) : Dst b a := fun e => ⟨fun z => (h e.symm).1 z.symm, fun z => (h e.symm).2 z.symm⟩
structure Rows (rows : List Ent) : Prop where
  all : ∀ r ∈ rows, r ∈ allRows
  dst : rows.Pairwise Dst
theorem Rows.perm {a b : List Ent} (h : Rows a) (p : a.Perm b) : Rows b := ⟨fun r m => h.all r (p.mem_iff.mpr m), (p.pairwise_iff fun {x y} h => h.symm).mp h.dst⟩
theorem Rows.take {a : List Ent} (h : Rows a) (n : Nat) : Rows (a.take n) := ⟨fun r m => h.all r (List.mem_of_mem_take m), h.dst.sublist (List.take_sublist _ _)⟩
/-- the words of a kind -/
def kinds4 : List (String × List (String × String) × Nat) := [("noun", nounS, 5), ("adj", adjS, 4), ("verb", verbS, 3), ("name", nameS, 3)]
def Ne2 (a b : String × String) : Prop := sN a.1 ≠ sN b.1 ∧ sN a.2 ≠ sN b.2
instance (a b : String × String) : Decidable (Ne2 a b) := inferInstanceAs (Decidable (_ ∧ _))
theorem Ne2.symm {a b : String × String} (h : Ne2 a b) : Ne2 b a := ⟨fun z => h.1 z.symm, fun z => h.2 z.symm⟩
theorem kinds4_fit : ∀ t ∈ kinds4, t.2.1.Pairwise Ne2 ∧ t.2.2 ≤ t.2.1.length ∧ 0 < t.2.2 ∧ t.2.2 ≤ 5 ∧ t.2.1.length ≤ 6 ∧
    ∀ q ∈ t.2.1, (sN t.1 = sN "name" → ∀ p ∈ ["he", "she", "it"], (⟨sN t.1, sN q.1, sN q.2, some (sN p)⟩ : Ent) ∈ allRows) ∧ (sN t.1 ≠ sN "name" → (⟨sN t.1, sN q.1, sN q.2, none⟩ : Ent) ∈ allRows) := by decide +kernel
theorem kinds4_sum (i : Nat) : ((kinds4.take i).map fun t => t.2.2).sum ≤ 15 := by
  match i with
  | 0 => decide
  | 1 => decide
  | 2 => decide
  | 3 => decide
  | i + 4 => rw [List.take_of_length_le (by show 4 ≤ i + 4; omega)]; decide
theorem kinds4_apart {i : Nat} {t t' : String × List (String × String) × Nat} (h : kinds4[i]? = some t) (m : t' ∈ kinds4.take i) : sN t'.1 ≠ sN t.1 := by
  have key : ∀ i < 4, ∀ t' ∈ kinds4.take i, sN t'.1 ≠ sN (kinds4.getD i ("", [], 0)).1 := by decide +kernel
  have hi : i < 4 := (List.getElem?_eq_some_iff.mp h).1
  have := key i hi t' m
  rw [List.getD_eq_getElem?_getD, h] at this
  exact this
theorem perm_erase {α : Type} : ∀ {l : List α} {i : Nat} {x : α}, l[i]? = some x → l.Perm (x :: l.eraseIdx i)
  | [], i, x, h => by simp at h
  | y :: l, 0, x, h => by
    cases (show y = x from Option.some.inj h)
    exact List.Perm.refl _
  | y :: l, i + 1, x, h => by
    have ih := perm_erase (l := l) (i := i) (x := x) h
    exact (ih.cons y).trans (List.Perm.swap x y _)
/-- what is left of a pool goes with the rows so far -/
structure Left (rows : List Ent) (kd : String) (ps pl : List (String × String)) : Prop where
  ne : pl.Pairwise Ne2
  mem : ∀ q ∈ pl, q ∈ ps
  apart : ∀ r ∈ rows, r.k = sN kd → ∀ q ∈ pl, sN q.1 ≠ r.n ∧ sN q.2 ≠ r.f
theorem Left.step {rows : List Ent} {kd : String} {ps pl : List (String × String)} (h : Left rows kd ps pl) (g : Rows rows) {i : Nat} {q : String × String} (e : pl[i]? = some q) {p : Option (List Nat)} (m : (⟨sN kd, sN q.1, sN q.2, p⟩ : Ent) ∈ allRows) :
    Left (rows ++ [⟨sN kd, sN q.1, sN q.2, p⟩]) kd ps (pl.eraseIdx i) ∧ Rows (rows ++ [⟨sN kd, sN q.1, sN q.2, p⟩]) ∧ q ∈ ps := by
  have hp := perm_erase e
  have hn : (q :: pl.eraseIdx i).Pairwise Ne2 := (hp.pairwise_iff fun {x y} h => h.symm).mp h.ne
  obtain ⟨n1, n2⟩ := List.pairwise_cons.mp hn
  have hm : ∀ x ∈ pl.eraseIdx i, x ∈ pl := fun x hx => hp.mem_iff.mpr (List.mem_cons_of_mem _ hx)
  have hq : q ∈ pl := hp.mem_iff.mpr (by simp)
  refine ⟨⟨n2, fun x hx => h.mem x (hm x hx), fun r hr hk x hx => ?_⟩, ⟨fun r hr => ?_, ?_⟩, h.mem q hq⟩
  · rcases List.mem_append.mp hr with hr | hr
    · exact h.apart r hr hk x (hm x hx)
    · rw [List.mem_singleton.mp hr]
      exact ⟨fun z => (n1 x hx).1 z.symm, fun z => (n1 x hx).2 z.symm⟩
  · rcases List.mem_append.mp hr with hr | hr
    · exact g.all r hr
    · rw [List.mem_singleton.mp hr]
      exact m
  · rw [List.pairwise_append]
    refine ⟨g.dst, List.pairwise_singleton _ _, fun a ha b hb hk => ?_⟩
    rw [List.mem_singleton.mp hb] at hk ⊢
    have := h.apart a ha hk q hq
    exact ⟨fun z => this.1 z.symm, fun z => this.2 z.symm⟩
/-- the lines of such rows build a lexicon -/
theorem Rows.built {rows : List Ent} (h : Rows rows) : Built [] (rows.map lineOf) rows := by
  have key : ∀ (n : Nat), n ≤ rows.length → Built [] ((rows.take n).map lineOf) (rows.take n) := fun n => by
    induction n with
    | zero => intro _; exact .nil
    | succ n ih =>
      intro hn
      have hl : n < rows.length := hn
      have hg : rows[n]? = some rows[n] := List.getElem?_eq_getElem hl
      obtain ⟨r, hr⟩ : ∃ r, r = rows[n] := ⟨_, rfl⟩
      rw [← hr] at hg
      have hm : r ∈ rows := List.mem_of_getElem? hg
      obtain ⟨a1, a2, a3, a4, _⟩ := all_fit r (h.all r hm)
      rw [List.take_add_one, hg, List.map_append]
      have no : ∀ {lang s : List Nat}, ((lang = sN "near" ∧ s = r.n) ∨ (lang = sN "far" ∧ s = r.f)) → ¬ Taken (rows.take n) r.k lang s := by
        rintro lang s hs (⟨_, t⟩ | ⟨i, q, h1, h2, h3⟩)
        · have nf : sN "near" ≠ sN "far" := by decide +kernel
          rcases hs with ⟨rfl, rfl⟩ | ⟨rfl, rfl⟩
          · rcases t with ⟨_, t⟩ | ⟨t, _⟩
            · exact a3 t
            · exact nf t
          · rcases t with ⟨t, _⟩ | ⟨_, t⟩
            · exact nf t.symm
            · exact a4 t
        · have hi : i < n := by
            have := (List.getElem?_eq_some_iff.mp h1).1
            rw [List.length_take] at this
            omega
          rw [List.getElem?_take_of_lt hi] at h1
          obtain ⟨i1, i2⟩ := List.getElem?_eq_some_iff.mp h1
          have := List.pairwise_iff_getElem.mp h.dst i n i1 hl hi
          rw [i2, ← hr] at this
          have nf : sN "near" ≠ sN "far" := by decide +kernel
          obtain ⟨b1, b2⟩ := this h2
          rcases hs with ⟨rfl, rfl⟩ | ⟨rfl, rfl⟩
          · rcases h3 with ⟨_, t⟩ | ⟨t, _⟩
            · exact b1 t
            · exact nf t
          · rcases h3 with ⟨t, _⟩ | ⟨_, t⟩
            · exact nf t.symm
            · exact b2 t
      exact (ih (by omega)).snoc (.ok a1 a2 (no (.inl ⟨rfl, rfl⟩)) (no (.inr ⟨rfl, rfl⟩)))
  have := key rows.length (Nat.le_refl _)
  rw [List.take_length] at this
  exact this
/-! ### lines that do not go -/
def badForms : List String := ["noun  cat kissa", "noun cat kissa he", "name ann anna", "name ann anna they", "verb See nak", "adv see nak", "", "noun ccccccccccccc kissa", "adj red punan ", "noun cat k1"]
theorem badForms_fit : ∀ s ∈ badForms, entryOf (sN s) = none := by decide +kernel
theorem short_fit : ∀ r ∈ allRows, entryOf (r.k ++ 32 :: r.n) = none := by decide +kernel
def isClosed : Option Ent → Bool
  | some r => closed r
  | none => false
theorem isClosed_of {l : List Nat} {rows : List Ent} (h : isClosed (entryOf l) = true) : Add rows l none "closed" := by
  cases e : entryOf l with
  | none => rw [e] at h; cases h
  | some r => rw [e] at h; exact .closed e h
theorem near_fit : ∀ w ∈ nearC, isClosed (entryOf (sN "noun " ++ w ++ sN " zzz")) = true ∧ w.length ≤ 20 := by decide +kernel
theorem far_fit : ∀ w ∈ farC, isClosed (entryOf (sN "verb zzz " ++ w)) = true ∧ w.length ≤ 20 := by decide +kernel
theorem every_fit : isClosed (entryOf (sN "noun every kai")) = true := by decide +kernel
def twiceN (r o : Ent) : List Nat := joinC 32 (r.k :: o.n :: sN "zzzz" :: r.p.toList)
def twiceF (r o : Ent) : List Nat := joinC 32 (r.k :: sN "zzzz" :: o.f :: r.p.toList)
theorem twice_fit : ∀ r ∈ allRows, ∀ o ∈ allRows, r.k = o.k → (entryOf (twiceN r o) = some ⟨r.k, o.n, sN "zzzz", r.p⟩ ∧ closed ⟨r.k, o.n, sN "zzzz", r.p⟩ = false) ∧ entryOf (twiceF r o) = some ⟨r.k, sN "zzzz", o.f, r.p⟩ ∧ closed ⟨r.k, sN "zzzz", o.f, r.p⟩ = false := by decide +kernel
theorem twiceN_add {rows : List Ent} {r o : Ent} {i : Nat} (hr : r ∈ allRows) (ho : o ∈ allRows) (hk : r.k = o.k) (h : rows[i]? = some o) : Add rows (twiceN r o) none "twice" := by
  obtain ⟨⟨a1, a2⟩, _⟩ := twice_fit r hr o ho hk
  exact .twice a1 a2 (.inl (.inr ⟨i, o, h, hk.symm, .inl ⟨rfl, rfl⟩⟩))
theorem twiceF_add {rows : List Ent} {r o : Ent} {i : Nat} (hr : r ∈ allRows) (ho : o ∈ allRows) (hk : r.k = o.k) (h : rows[i]? = some o) : Add rows (twiceF r o) none "twice" := by
  obtain ⟨_, a1, a2⟩ := twice_fit r hr o ho hk
  exact .twice a1 a2 (.inr (.inr ⟨i, o, h, hk.symm, .inr ⟨rfl, rfl⟩⟩))
end Lx
set_option Elab.async false
set_option linter.all false
set_option maxRecDepth 100000
/-! set(xs) for a list of any length, keys of any kind; len of it -/
namespace SetG
open PySem PySem.Spec PyProof.Rows
/-- how many different ones -/
def uniq {K : Type} [DecidableEq K] : List K → List K → Nat
  | _, [] => 0
  | done, k :: r => if k ∈ done then uniq done r else uniq (k :: done) r + 1
section
variable {K : Type} [DecidableEq K] {P0 : Program} {w0 : World} (kd : KeyKind P0 w0 K)
/-- the first i of ks lie in the set at S -/
def Part (h : Heap) (S : Addr) (ks : List K) (i m : Nat) : Prop := m ≤ i ∧ h.SetOf kd S (fun z => decide (z ∈ ks.take i)) m ∧ m + uniq (ks.take i) (ks.drop i) = uniq [] ks
variable {kd}
theorem uniq_congr : ∀ (r d d' : List K), (∀ z, z ∈ d ↔ z ∈ d') → uniq d r = uniq d' r
  | [], _, _, _ => rfl
  | k :: r, d, d', e => by
    unfold uniq
    by_cases h : k ∈ d
    · rw [if_pos h, if_pos ((e k).mp h), uniq_congr r d d' e]
    · rw [if_neg h, if_neg (fun z => h ((e k).mpr z)), uniq_congr r (k :: d) (k :: d') (fun z => by rw [List.mem_cons, List.mem_cons, e])]
theorem mem_next {ks : List K} {i : Nat} {k : K} (h : ks[i]? = some k) (z : K) : z ∈ ks.take (i + 1) ↔ z ∈ k :: ks.take i := by
  rw [List.take_succ, h, List.mem_append, List.mem_cons]
  constructor
  · rintro (a | a)
    · exact .inr a
    · exact .inl (by simpa using a)
  · rintro (a | a)
    · exact .inr (by simpa using a)
    · exact .inl a
theorem uniq_le : ∀ (r d : List K), uniq d r ≤ r.length
  | [], _ => Nat.le_refl _
  | k :: r, d => by
    unfold uniq
    split
    · exact Nat.le_succ_of_le (uniq_le r d)
    · exact Nat.succ_le_succ (uniq_le r _)
theorem set_ext {hp : Heap} {a : Addr} {f g : K → Bool} {m : Nat} (x : hp.SetOf kd a f m) (e : ∀ z, f z = g z) : hp.SetOf kd a g m := by
  rw [← show f = g from funext e]; exact x
theorem part_step {hp : Heap} {S : Addr} {ks : List K} {i m : Nat} {k : K} (hk : ks[i]? = some k) (hle : m ≤ i) (hc : m + uniq (ks.take i) (ks.drop i) = uniq [] ks)
    (x : hp.SetOf kd S (fun z => decide (z ∈ ks.take i) || decide (z = k)) (if decide (k ∈ ks.take i) = true then m else m + 1)) : Part kd hp S ks (i + 1) (if decide (k ∈ ks.take i) = true then m else m + 1) := by
  have hd : ks.drop i = k :: ks.drop (i + 1) := by
    obtain ⟨hi, e⟩ := List.getElem?_eq_some_iff.mp hk
    rw [List.drop_eq_getElem_cons hi, e]
  rw [hd, show uniq (ks.take i) (k :: ks.drop (i + 1)) = (if k ∈ ks.take i then uniq (ks.take i) (ks.drop (i + 1)) else uniq (k :: ks.take i) (ks.drop (i + 1)) + 1) from rfl] at hc
  refine ⟨by split <;> omega, set_ext x fun z => ?_, ?_⟩
  · rw [Bool.eq_iff_iff, Bool.or_eq_true, decide_eq_true_eq, decide_eq_true_eq, decide_eq_true_eq, mem_next hk, List.mem_cons, Or.comm]
  · by_cases hm : k ∈ ks.take i
    · rw [if_pos (decide_eq_true hm)]
      rw [if_pos hm] at hc
      rw [← hc, uniq_congr _ _ (ks.take i) (fun z => ?_)]
      rw [mem_next hk, List.mem_cons]
      exact ⟨fun o => o.elim (fun e => e ▸ hm) id, .inr⟩
    · rw [if_neg (by rw [decide_eq_true_eq]; exact hm)]
      rw [if_neg hm] at hc
      rw [← hc, uniq_congr _ _ (k :: ks.take i) (mem_next hk)]
      omega
end
section
variable {K : Type} [DecidableEq K] {prog : Program} {w : World} {kd : KeyKind prog w K} {A : Around} {R : Result → Shared → Prop} {it : Addr} {fp wr : List Addr} {G : Array GenState → Array GenState → Prop} {n : Nat} {P : Nat → Value → Prop} {St : Nat → Shared → Prop}
theorem stay {h h' : Heap} {S : Addr} {f : K → Bool} {m : Nat} (e : ∀ o, h.get? S = some o → h'.get? S = some o) (x : h.SetOf kd S f m) : h'.SetOf kd S f m := by
  obtain ⟨o, es, ep, t, ho, rest⟩ := x
  exact ⟨o, es, ep, t, e o ho, rest⟩
theorem fill (W : WalksS prog w A.in1 it fp wr G n P St) (S : Addr) (out : S ∉ fp) (ks : List K) (len : ks.length = n) (small : n + 1 < scanBound)
    (val : ∀ i v, P i v → v.scannable = true ∧ ∃ k, ks[i]? = some k ∧ kd.is k v = true) :
    ∀ (left i m : Nat) (s : Shared), n - i = left → i ≤ n → St i s → Part kd s.heap S ks i m →
      (∀ s' m', Moved (S :: wr) G s s' → Part kd s'.heap S ks n m' → R (.ok (.ret .none)) s') →
      codeAny (model prog w) A (.builtin "set.update.loop" ⟨[.ref S, .ref it], []⟩) R s := by
  have ns : S ∉ wr := fun z => out (W.sub _ z)
  have up : ∀ b ∈ wr, b ∈ S :: wr := fun b z => List.mem_cons_of_mem _ z
  intro left
  induction left with
  | zero =>
    intro i m s el le st x ends
    obtain rfl : i = n := by omega
    refine codeAny_builtin F.entry_set_update_loop ?_
    rw [Around.under_plainId F.plain_set_update_loop _]
    show wpAny _ A.in1 (pyNext (.ref it) >>= _) _ _ s
    refine wpAny_bind (W.done s _ _ st fun s1 mv => ?_)
    show wpAny _ A.in1 (ret Value.none) _ _ s1
    obtain ⟨x1, x2, x3⟩ := x
    exact wpAny_pure (ends s1 m (mv.mono up) ⟨x1, stay (fun o e => mv.heap S o ns e) x2, x3⟩)
  | succ left ih =>
    intro i m s el le st x ends
    have lt : i < n := by omega
    refine codeAny_builtin F.entry_set_update_loop ?_
    rw [Around.under_plainId F.plain_set_update_loop _]
    show wpAny _ A.in1 (pyNext (.ref it) >>= _) _ _ s
    refine wpAny_bind (W.item i s _ _ lt st fun v s1 pv st1 mv => ?_)
    obtain ⟨sc, k, ek, isk⟩ := val i v pv
    obtain ⟨x1, x2, x3⟩ := x
    have y2 := stay (h' := s1.heap) (fun o e => mv.heap S o ns e) x2
    show wpAny _ A.in1 (holding [v] (setAdd S v) >>= _) _ _ s1
    refine wpAny_bind (wpAny_holding ?_)
    unfold setAdd
    refine wpAny_holding (wpAny_bind (kd.pyHash (k := k) isk ?_))
    refine wpAny_setAddHashed_of (knd := kd) (s := { s1 with toks := s1.toks + 1 }) isk sc y2 (by omega) fun h2 same z2 => ?_
    have step := part_step ek x1 x3 z2
    refine wpAny_pure ⟨plainId_quiet F.plain_set_update_loop _, ih (i + 1) _ _ (by omega) lt (W.frame _ s1 _ _ st1 (Nat.le_succ _) fun b hb o e => ?_) step fun s3 m3 mv3 x3' => ?_⟩
    · rw [same.2 b (fun z : b = S => out (z ▸ hb))]; exact e
    · refine ends s3 m3 (Moved.trans W.gtrans ((mv.mono up).then_heap (Nat.le_succ _) fun b o hb e => ?_) mv3) x3'
      rw [same.2 b (fun z : b = S => hb (z ▸ List.mem_cons_self))]; exact e
end
section
variable {K : Type} [DecidableEq K] {prog : Program} {w : World} {kd : KeyKind prog w K} {A : Around} {E : Value → Shared → Prop} {s : Shared}
abbrev emp (b : Bool) : Obj := { cls := .type "set", dict := none, data := .set #[] 0 (.fresh 0 0 b) }
abbrev was (s : Shared) (b : Bool) : Shared := { s with heap := s.heap.push (emp b) }
/-- what a new set is, and all else as before -/
def Made (kd : KeyKind prog w K) (s : Shared) (ks : List K) (h : Heap) : Prop := h.SetOf kd s.heap.objs.size (fun z => decide (z ∈ ks)) (uniq [] ks) ∧ ∀ b o, b < s.heap.objs.size → s.heap.get? b = some o → h.get? b = some o
set_option maxHeartbeats 3200000 in
theorem make {l : Addr} {xs : Array Value} {ks : List K} {Q : Value → Shared → Prop} (calm : A.handled = none) (lst : s.heap.IsList l xs) (len : ks.length = xs.size) (small : xs.size + 1 < scanBound)
    (val : ∀ (i : Nat) (v : Value), xs[i]? = some v → v.scannable = true ∧ ∃ k, ks[i]? = some k ∧ kd.is k v = true)
    (q : ∀ (h : Heap) (tk : Nat), Made kd s ks h → Q (.ref s.heap.objs.size) { s with heap := h, toks := tk }) : wpAny (model prog w) A (call (.type "set") [.ref l]) Q E s := by
  obtain ⟨c0, c1, c2⟩ := PySem.F.called_set.mro
  have a1 := PySem.F.called_set.made
  have a2 := PySem.F.called_set.sub
  refine wpAny_call (codeAny_of_tree ?_)
  show wpAny _ _ (callAny (.type "set") _) _ _ _
  refine wpAny_pure ⟨Code.quiet_builtin _ (by decide +kernel), codeAny_builtin PySem.F.entry_type_call ?_⟩
  rw [Around.under_plain (weight_type_call_type "set" [.ref l] []) rfl]
  have a3 := PySem.F.called_set.notType
  have a4 := PySem.F.called_set.canCreate
  have a5 := PySem.F.typeCall_set_1 (.ref l)
  repeat (any_goals (first | assumption | wp_step))
  refine codeAny_mono (code_set_new_1 (.ref l) (E := E) (Q₁ := fun y t => ∃ b : Bool, y = .ref s.heap.objs.size ∧ t = was s b) fun b => ⟨b, rfl, rfl⟩) fun r s1 hr => ?_
  cases r with
  | error e => exact hr
  | ok fl =>
    cases fl with
    | ret y =>
      obtain ⟨b, rfl, rfl⟩ := hr
      have new : (s.heap.push (emp b)).get? s.heap.objs.size = some (emp b) := Heap.get?_push_size _ rfl
      have ty : (was s b).TypeIs (.ref s.heap.objs.size) "set" := ⟨_, new, rfl⟩
      have a6 := PySem.F.called_set.init.lookup
      have a7 := PySem.F.called_set.init.bind (.ref s.heap.objs.size)
      repeat (any_goals (first | assumption | wp_step))
      refine codeAny_mono (codeAny_call_builtin (R := wants (fun x t => x = .none ∧ ∃ h tk, t = { s with heap := h, toks := tk } ∧ Made kd s ks h) E) PySem.F.called_set.init.plain PySem.F.entry_set_init (check_set_init_1 ty ?_)) fun r2 s2 hr2 => ?_
      · obtain ⟨⟨ocls, odict, odata, oslots⟩, look, hc, n0, hd⟩ := lst
        simp only at hc hd
        subst hc; subst hd
        have look1 : (s.heap.push (emp b)).get? l = some { cls := .type "list", dict := odict, data := .seq xs n0, slots := oslots } := Heap.get?_push_of_some _ look
        have b1 := PySem.F.sub_list_set
        have b2 := PySem.F.sub_list_frozenset
        have b3 : (Value.type "list" == Value.type "dict") = false := by decide
        have lst1 : (s.heap.push (emp b)).IsList l xs := ⟨_, look1, rfl, n0, rfl⟩
        unfold Builtin.«set.__init__» noKeywords Builtin.Frozenset.updateFrom
        generalize hg : pyIter = g
        wp_walk
        subst hg
        refine wpAny_pyIter_list lst1 (wpAny_bind (wpAny_runValue ?_))
        have below : l < s.heap.objs.size := Heap.lt_size look
        have calm3 : A.in1.in1.in1.handled = none := by simp [calm]
        have sz : (s.heap.push (emp b)).objs.size = s.heap.objs.size + 1 := Heap.size_push _ _
        have nl : l ≠ (s.heap.push (emp b)).objs.size := by rw [sz]; exact Nat.ne_of_lt (Nat.lt_succ_of_lt below)
        have nS : s.heap.objs.size ∉ [(s.heap.push (emp b)).objs.size, l] := by
          rw [sz, List.mem_cons, List.mem_singleton, not_or]
          exact ⟨Nat.ne_of_lt (Nat.lt_succ_self _), Nat.ne_of_gt below⟩
        refine fill ((Walks.list calm3 _ l nl xs).toS) s.heap.objs.size nS ks len small val (xs.size - 0) 0 0 _ (by omega) (Nat.zero_le _) ⟨⟨_, Heap.get?_push_size _ rfl, rfl, rfl⟩, (lst1.push _)⟩ ?first ?last
        case first =>
          refine ⟨Nat.le_refl _, set_ext ((setObjOf_fresh (knd := kd) b).setOf (Heap.get?_push_of_some _ new) (by unfold scanBound; omega)) (fun z => ?_), ?_⟩
          · rw [List.take_zero]; simp
          · rw [List.take_zero, List.drop_zero, Nat.zero_add]
        case last =>
          intro s3 m3 mv x3
          obtain ⟨h3, g3, d3, tk3, os3⟩ := s3
          obtain rfl : g3 = s.gens := mv.gens
          obtain rfl : d3 = s.drawn := mv.drawn
          obtain rfl : os3 = s.os := mv.os
          show wpAny _ _ _ _ _ _
          refine wpAny_pure ?_
          show wpAny _ _ (ret Value.none) _ _ _
          obtain ⟨x1, x2, x4⟩ := x3
          have em : m3 = uniq [] ks := by
            rw [← x4, List.drop_eq_nil_of_le (by omega)]; rfl
          refine wpAny_pure ⟨rfl, h3, tk3, rfl, ⟨?_, fun c o hb e => ?_⟩⟩
          · rw [← em]
            exact set_ext x2 fun z => by rw [List.take_of_length_le (by omega)]
          · refine mv.heap c o ?_ (Heap.get?_push_of_some _ (Heap.get?_push_of_some _ e))
            rw [sz, List.mem_cons, List.mem_cons, not_or, not_or]
            exact ⟨Nat.ne_of_lt hb, Nat.ne_of_lt (Nat.lt_succ_of_lt hb), fun z => by cases z⟩
      · cases r2 with
        | error e => exact hr2
        | ok fl2 =>
          cases fl2 with
          | ret r =>
            obtain ⟨rfl, h, tk, rfl, hm⟩ := hr2
            repeat (any_goals (first | assumption | wp_step))
            exact q _ _ hm
          | _ => exact hr2.elim
    | _ => exact hr.elim
end
end SetG
set_option Elab.async false
set_option linter.all false
set_option maxRecDepth 100000
/-! len(set(xs)), xs a list of texts -/
namespace L2
open PySem PySem.Spec PyProof.Rows
section
variable {X : Cx}
def tLenSetS (K : PySem.W.Frag) (ta : TE) : TE := fun σ H Q => ta σ H fun x H1 => ∃ l, ∃ xs : List Str, x = .ref l ∧ SqL K H1 l (xs.map V.str) ∧ xs.length ≤ 4000 ∧ Q (.int (SetG.uniq [] xs : Nat)) H1
theorem strs_vals : ∀ {xs : List Str} {us : List Value}, Vals (xs.map V.str) us → ∀ (i : Nat) (v : Value), us[i]? = some v → ∃ x t, xs[i]? = some x ∧ v = .str x t
  | [], _, .nil, i, v, e => by simp at e
  | x :: xs, _, .cons r t, 0, v, e => by
    obtain ⟨k, rfl⟩ := r
    cases (show _ = v from Option.some.inj e)
    exact ⟨x, k, rfl, rfl⟩
  | x :: xs, _, .cons r t, i + 1, v, e => strs_vals (xs := xs) t i v (by simpa using e)
theorem pe_lenSetS {a : Expr} {ta : TE} {p p2 q pos : Pos} (hc : X.calm = true) (hg : Gl X "len") (hm : X.mg "len" = none) (hg2 : Gl X "set") (hm2 : X.mg "set" = none) (ha : PE X a ta)
    (na : starEach [a] X.env = (false, eval a X.env) :: starEach [] X.env := by rfl) : PE X (.Call (.Name "len" p) [.Call (.Name "set" p2) [a] [] q] [] pos) (tLenSetS X.K ta) := ⟨fun pins s σ H Q I ask => by
  refine Call_ (ld_blt I hg hm boot_len (PyProof.Rows.callWith_builtin1 (PyProof.Rows.args_cons ?_ rfl) rfl rfl))
  refine Call_ (ld_blt I hg2 hm2 boot_set (PyProof.Rows.callWith_type1 (PyProof.Rows.args_cons (thn (ha.run pins s σ H _ I ask) fun v t ⟨x, H1, I1, rv, got⟩ => PyProof.Rows.args_nil ?_) na) na rfl))
  obtain ⟨l, xs, rfl, lst, few, got⟩ := got
  cases rv
  obtain ⟨its, rs, pl, _⟩ := I1.list lst
  have sz : xs.length = its.toArray.size := by rw [List.size_toArray, ← rs.length, List.length_map]
  refine SetG.make (kd := PySem.strKind X.prog X.w) (I1.ok.hd hc) pl.isList (ks := xs) sz (by rw [← sz]; unfold scanBound; omega) (fun i v e => ?_) fun h tk ⟨md, kp⟩ => PyProof.Rows.args_nil ?_
  · obtain ⟨x, k, e1, rfl⟩ := strs_vals rs i v (by rw [← List.getElem?_toArray]; exact e)
    exact ⟨rfl, x, e1, strKind_is _ _ _ _⟩
  · obtain ⟨o, es, ep, tb, look, ex, hd, _, _, _, fit, sm⟩ := md
    have I2 : Inv X pins σ H1 { t with heap := h, toks := tk } := I1.kept fun b o e => kp b o (Heap.lt_size e) e
    have le := SetG.uniq_le xs ([] : List Str)
    exact call_len_set look ex hd fit (by rw [sm]; omega) ⟨.int (SetG.uniq [] xs : Nat), H1, I2.tok _, ⟨_, by rw [sm]⟩, got⟩⟩
end
end L2
set_option Elab.async false
set_option linter.all false
/-! the end: dicts of the top -/
namespace EndL
open PySem PySem.Spec PyProof.Rows L2
theorem ex_ns {K : PySem.W.Frag} {a : Addr} {es : Array DictEntry} {n : Nat} {z : Str} (h : K.lookup a = some ⟨.type "dict", none, .dict es n, #[]⟩) (o : es.toList.find? (·.key.isStr z) = none ∧ es.toList.any (·.refKey) = false) : PySem.W.nsIn K a z = some none := by
  unfold PySem.W.nsIn
  rw [h]
  dsimp only
  rw [o.1]
  dsimp only
  rw [o.2]
  rfl
def keyS (e : DictEntry) : Option Str := match e.key with
  | .str x _ => some x
  | _ => none
theorem find_none {z : Str} : ∀ (l : List DictEntry) (ks : List Str), l.map keyS = ks.map some → (∀ k ∈ ks, z ≠ k) → l.find? (·.key.isStr z) = none
  | [], _, _, _ => rfl
  | e :: l, [], h, _ => by cases h
  | e :: l, k :: ks, h, o => by
    rw [List.map_cons, List.map_cons, List.cons.injEq] at h
    have ih := find_none l ks h.2 fun j hj => o j (List.mem_cons_of_mem _ hj)
    have nk : (e.key.isStr z) = false := by
      have h1 := h.1
      unfold keyS at h1
      split at h1
      · rename_i x t q
        rw [q]
        show (x == z) = false
        rw [Option.some.inj h1]
        exact beq_eq_false_iff_ne.mpr fun q => o k (by simp) q.symm
      · cases h1
    rw [List.find?_cons, nk]
    exact ih
end EndL
set_option Elab.async false
set_option linter.all false
set_option maxRecDepth 100000
set_option maxHeartbeats 4000000
namespace K34
open PySem PySem.Spec PyProof.Rows L2 Tw Tk Lx
def topS (i : Nat) : Stmt := PySem.Challenge.pw_tellwork_k34_whole_lexicons.main.body.getD i (.Pass ⟨0, 0, 0, 0⟩)
structure Tx (mg : Str → Option Value) : Prop where
  n_len : mg "len" = none
  n_range : mg "range" = none
  n_list : mg "list" = none
  n_tuple : mg "tuple" = none
  n_int : mg "int" = none
  n_bool : mg "bool" = none
  n_str : mg "str" = none
  n_enumerate : mg "enumerate" = none
  n_min : mg "min" = none
  n_max : mg "max" = none
  n_abs : mg "abs" = none
  n_isinstance : mg "isinstance" = none
  n_all : mg "all" = none
  n_any : mg "any" = none
  n_zip : mg "zip" = none
  n_set : mg "set" = none
  c_LETTERS : ∃ u, mg "LETTERS" = some u ∧ RelV (.str (S LET)) u
  c_MOST_LINES : ∃ u, mg "MOST_LINES" = some u ∧ RelV (.int 40) u
  c_LONGEST : ∃ u, mg "LONGEST" = some u ∧ RelV (.int 12) u
structure Ex (K : PySem.W.Frag) (mg : Str → Option Value) (CT CI CL CM : Addr) : Prop where
  e_TellError : ExS.ErrC K mg "TellError" CT CT
  e_InvalidText : ExS.ErrC K mg "InvalidText" CI CT
  e_InvalidLexicon : ExS.ErrC K mg "InvalidLexicon" CL CT
  e_TooMany : ExS.ErrC K mg "TooMany" CM CT
  e_LL : ExS.ErrC K mg "InvalidLexicon" CL CL
  no_InvalidLexicon_what : PySem.W.findIn K (.ref CL) "what" = some none
  no_InvalidLexicon_line : PySem.W.findIn K (.ref CL) "line" = some none
  no_TooMany_what : PySem.W.findIn K (.ref CM) "what" = some none
  no_TooMany_many : PySem.W.findIn K (.ref CM) "many" = some none
  ll : PySem.W.kitOne K (.ref CL) (.ref CL) = some true
  li : PySem.W.kitOne K (.ref CL) (.ref CI) = some false
  lm : PySem.W.kitOne K (.ref CL) (.ref CM) = some false
  ml : PySem.W.kitOne K (.ref CM) (.ref CL) = some false
  mm : PySem.W.kitOne K (.ref CM) (.ref CM) = some true
/-! ### the module's constants -/
def tx (s : String) : V := .str (PySem.Str.ofString s)
def nearClosed : List String := ["every", "no", "some", "a", "an", "thing", "things", "is", "are", "not", "that", "and", "only", "at", "least", "most", "exactly", "two", "three", "four", "five", "six", "seven", "eight", "nine", "does", "do", "who", "how", "many", "why", "he", "she", "it", "so"]
def farClosed : List String := ["kai", "ei", "jo", "yk", "jukk", "jukklar", "jukkan", "jukklaran", "vain", "vah", "kor", "tas", "kas", "kol", "nel", "vis", "kus", "sei", "kah", "yhe", "li", "ka", "ol", "olt", "mol", "molt", "ku", "mon", "mik", "kin", "se"]
def nearNumbers : List String := ["two", "three", "four", "five", "six", "seven", "eight", "nine"]
def farNumbers : List String := ["kas", "kol", "nel", "vis", "kus", "sei", "kah", "yhe"]
/-- a tuple of the written part -/
def KT (K : PySem.W.Frag) (a : Addr) (xs : List V) : Prop := ∃ (o : Obj) (its : Array Value) (n : Nat), K.lookup a = some o ∧ o.cls = .type "tuple" ∧ o.data = .seq its n ∧ its.size ≤ sizeLine ∧ Vals xs its.toList
theorem KT.sq {K : PySem.W.Frag} {a : Addr} {xs : List V} (h : KT K a xs) (H : Hp) : SqT K H a xs := .inr h
structure Cn (K : PySem.W.Frag) (w : World) (mg : Str → Option Value) (aL aN aF aP aT aK aNN aFN : Addr) (es : Array DictEntry) (en : Nat) : Prop where
  c_LANGUAGES : ∃ u, mg "LANGUAGES" = some u ∧ RelV (.ref aL) u
  t_LANGUAGES : KT K aL (["near", "far"].map tx)
  c_NEAR_CLOSED : ∃ u, mg "NEAR_CLOSED" = some u ∧ RelV (.ref aN) u
  t_NEAR_CLOSED : KT K aN (nearClosed.map tx)
  c_FAR_CLOSED : ∃ u, mg "FAR_CLOSED" = some u ∧ RelV (.ref aF) u
  t_FAR_CLOSED : KT K aF (farClosed.map tx)
  c_PERSONS : ∃ u, mg "PERSONS" = some u ∧ RelV (.ref aP) u
  t_PERSONS : KT K aP (["he", "she", "it"].map tx)
  c_THING : ∃ u, mg "THING" = some u ∧ RelV (.ref aT) u
  t_THING : KT K aT [tx "noun", tx "thing", tx "jukk", .non]
  c_KINDS : ∃ u, mg "KINDS" = some u ∧ RelV (.ref aK) u
  d_KINDS : KDict K w aK es en
  k_noun : ∃ t : Tok, PySem.W.nsIn K aK "noun" = some (some (.int 3 t))
  k_adj : ∃ t : Tok, PySem.W.nsIn K aK "adj" = some (some (.int 3 t))
  k_verb : ∃ t : Tok, PySem.W.nsIn K aK "verb" = some (some (.int 3 t))
  k_name : ∃ t : Tok, PySem.W.nsIn K aK "name" = some (some (.int 4 t))
  k_other : ∀ z : Str, z ≠ "noun" → z ≠ "adj" → z ≠ "verb" → z ≠ "name" → PySem.W.nsIn K aK z = some none
  c_NEAR_NUMBERS : ∃ u, mg "NEAR_NUMBERS" = some u ∧ RelV (.ref aNN) u
  t_NEAR_NUMBERS : KT K aNN (nearNumbers.map tx)
  c_FAR_NUMBERS : ∃ u, mg "FAR_NUMBERS" = some u ∧ RelV (.ref aFN) u
  t_FAR_NUMBERS : KT K aFN (farNumbers.map tx)
section
variable {P : Program} {w : World} {K : PySem.W.Frag} {mg : Str → Option Value} {base : Heap} {CT CI CL CM CX_ aL aN aF aP aT aK aNN aFN : Addr} {es : Array DictEntry} {en : Nat}
/-! ### InvalidLexicon, TooMany -/
def few (i : Int) : Prop := 0 ≤ i ∧ i ≤ 1000000
theorem few_log {i : Int} (h : few i) : i.natAbs.log2 < 1920 := by
  have h1 : i.natAbs ≤ 1000000 := by have := h.1; have := h.2; omega
  have : i.natAbs.log2 ≤ 20 := by
    by_cases z : i.natAbs = 0
    · rw [z]; decide
    · have := (Nat.log2_lt z (k := 20)).mpr (by omega)
      omega
  omega
theorem few_len {i : Int} (h : few i) : (PySem.Str.ofString (toString i)).length ≤ 10 := PyProof.Rows.toString_length_le h.1 (by decide) (by have := h.2; omega)
def okIL (xs : List V) : Prop := ∃ (z : Str) (l : Int), xs = [.str z, .int l] ∧ z.length ≤ 100 ∧ few l
def fsIL (xs : List V) : List (Str × V) := match xs with
  | [z, l] => [("line", l), ("what", z)]
  | _ => []
def okTM (xs : List V) : Prop := ∃ (z : Str) (l : Int), xs = [.str z, .int l] ∧ z.length ≤ 100
def fsTM (xs : List V) : List (Str × V) := match xs with
  | [z, l] => [("many", l), ("what", z)]
  | _ => []
abbrev s_InvalidLexicon___init__ : Stmt := ExS.methS (topS 3) 0
theorem sc_InvalidLexicon___init__ : NdefX.NScope ["self", "what", "line", "__class__"] ["self", "what", "line"] ["__class__"] (defScope s_InvalidLexicon___init__) := NdefX.nscope_by (by decide +kernel)
theorem ok_initL {f D cda cc : Addr} {od : Option Addr} {osl : Array (Option Value)} {oc doc pm ct kV : Value} {an : Option Addr} {C : Addr}
    (lk : K.lookup f = some ⟨oc, od, .func (PySem.W.ksFn "__init__" "InvalidLexicon.__init__" (defArgs s_InvalidLexicon___init__) (defBody s_InvalidLexicon___init__) (defScope s_InvalidLexicon___init__) .none kV doc pm an (.ref cda) ct cc), osl⟩)
    (M : ExS.SupM P K mg D cda cc "InvalidLexicon.__init__") (SC_ : ExS.SupC K C D) (OX : OexC K C) (n1 : PySem.W.findIn K (.ref C) "what" = some none) (n2 : PySem.W.findIn K (.ref C) "line" = some none) (T : Tx mg) :
    FnOk P w K mg base CX0 1 f (PySem.W.ksFn "__init__" "InvalidLexicon.__init__" (defArgs s_InvalidLexicon___init__) (defBody s_InvalidLexicon___init__) (defScope s_InvalidLexicon___init__) .none kV doc pm an (.ref cda) ct cc) ["self", "what", "line"] (ExS.spInit C okIL fsIL) := by
  refine ExS.fn_super (N := ["self", "what", "line", "__class__"]) lk M sc_InvalidLexicon___init__ rfl rfl rfl rfl (fun vs H Q E h => ?_) (fun A outer s H vs Q E hr h => ?_) (fun _ => rfl) (fun _ => rfl) (fun _ => rfl) (fun _ => rfl)
  · obtain ⟨a, xs, rfl, ⟨l, c, rfl, _⟩, _⟩ := h
    rfl
  · obtain ⟨a, xs, rfl, ⟨z, l, rfl, hz, fl⟩, ha, q⟩ := h
    refine ⟨a, _, _, _, rfl, SC_, OX, (pa_cons (pe_op op_add_str (pe_op op_add_str (pv 1) pe_str) (pe_callTy call_str_int rfl T.n_str (by decide +kernel) (pa_cons (pv 2) pa_nil))) pa_nil), (pss_cons (ps_ost (pv 0) (pv 1))
    (pss_one (ps_ost (pv 0) (pv 2)))), ?_⟩
    have ll := few_len fl
    have z1 : (PySem.Str.ofString " in line ").length = 9 := by decide
    refine ⟨ha, .str z, rfl, _, _, rfl, rfl, szL (by omega), .int l, rfl, l, rfl, few_log fl, _, _, rfl, rfl, szL (by rw [Str.length_append]; omega), ?_⟩
    refine ⟨by show 1 ≤ 1000; decide, ha, ?_⟩
    refine ⟨.str z, rfl, .ref a, rfl, a, C, rfl, OX, n1, .inl ⟨ha, fun dx nd ne => ?_⟩⟩
    have hdx : upd (upd H dx (exd dx [(("what" : Str), V.str z)])) a (exo a C (some dx)) dx = some (exd dx [(("what" : Str), V.str z)]) := by rw [upd_ne ne, upd_same]
    refine ⟨.int l, rfl, .ref a, rfl, a, C, rfl, OX, n2, .inr ⟨dx, _, upd_same, hdx, by show 1 ≤ 900; decide, ?_⟩⟩
    · refine q dx _ nd ne (fun b n1 n2 => ?_) ?_ upd_same
      · rw [upd_ne n2, upd_ne n1, upd_ne n2]
      · rw [upd_ne (Ne.symm ne), upd_same]
abbrev s_TooMany___init__ : Stmt := ExS.methS (topS 4) 0
theorem sc_TooMany___init__ : NdefX.NScope ["self", "what", "many", "__class__"] ["self", "what", "many"] ["__class__"] (defScope s_TooMany___init__) := NdefX.nscope_by (by decide +kernel)
theorem ok_initM {f D cda cc : Addr} {od : Option Addr} {osl : Array (Option Value)} {oc doc pm ct kV : Value} {an : Option Addr} {C : Addr}
    (lk : K.lookup f = some ⟨oc, od, .func (PySem.W.ksFn "__init__" "TooMany.__init__" (defArgs s_TooMany___init__) (defBody s_TooMany___init__) (defScope s_TooMany___init__) .none kV doc pm an (.ref cda) ct cc), osl⟩)
    (M : ExS.SupM P K mg D cda cc "TooMany.__init__") (SC_ : ExS.SupC K C D) (OX : OexC K C) (n1 : PySem.W.findIn K (.ref C) "what" = some none) (n2 : PySem.W.findIn K (.ref C) "many" = some none) (T : Tx mg) :
    FnOk P w K mg base CX0 1 f (PySem.W.ksFn "__init__" "TooMany.__init__" (defArgs s_TooMany___init__) (defBody s_TooMany___init__) (defScope s_TooMany___init__) .none kV doc pm an (.ref cda) ct cc) ["self", "what", "many"] (ExS.spInit C okTM fsTM) := by
  refine ExS.fn_super (N := ["self", "what", "many", "__class__"]) lk M sc_TooMany___init__ rfl rfl rfl rfl (fun vs H Q E h => ?_) (fun A outer s H vs Q E hr h => ?_) (fun _ => rfl) (fun _ => rfl) (fun _ => rfl) (fun _ => rfl)
  · obtain ⟨a, xs, rfl, ⟨l, c, rfl, _⟩, _⟩ := h
    rfl
  · obtain ⟨a, xs, rfl, ⟨z, l, rfl, hz⟩, ha, q⟩ := h
    refine ⟨a, _, _, _, rfl, SC_, OX, (pa_cons (pv 1) pa_nil), (pss_cons (ps_ost (pv 0) (pv 1))
    (pss_one (ps_ost (pv 0) (pv 2)))), ?_⟩
    refine ⟨ha, .str z, rfl, ?_⟩
    refine ⟨by show 1 ≤ 1000; decide, ha, ?_⟩
    refine ⟨.str z, rfl, .ref a, rfl, a, C, rfl, OX, n1, .inl ⟨ha, fun dx nd ne => ?_⟩⟩
    have hdx : upd (upd H dx (exd dx [(("what" : Str), V.str z)])) a (exo a C (some dx)) dx = some (exd dx [(("what" : Str), V.str z)]) := by rw [upd_ne ne, upd_same]
    refine ⟨.int l, rfl, .ref a, rfl, a, C, rfl, OX, n2, .inr ⟨dx, _, upd_same, hdx, by show 1 ≤ 900; decide, ?_⟩⟩
    · refine q dx _ nd ne (fun b n1 n2 => ?_) ?_ upd_same
      · rw [upd_ne n2, upd_ne n1, upd_ne n2]
      · rw [upd_ne (Ne.symm ne), upd_same]
/-! ### check_language, closed_words -/
theorem inV_tx (x : List Nat) : ∀ L : List String, inV (.str (S x)) (L.map tx) = decide (x ∈ L.map sN)
  | [] => rfl
  | s :: L => by
    have ih := inV_tx x L
    have e : eqV (tx s) (.str (S x)) = decide (x = sN s) := by
      unfold tx
      rw [S_sN]
      show (S (sN s) == S x) = _
      rw [Bool.eq_iff_iff, beq_iff_eq, decide_eq_true_eq, S_inj]
      exact eq_comm
    show (eqV (tx s) (.str (S x)) || inV (.str (S x)) (L.map tx)) = _
    rw [e, ih, Bool.eq_iff_iff, Bool.or_eq_true, decide_eq_true_eq, decide_eq_true_eq, decide_eq_true_eq, List.map_cons, List.mem_cons]
theorem flat_tx : ∀ L : List String, (L.map tx).all flatV = true
  | [] => rfl
  | s :: L => by
    show (true && (L.map tx).all flatV) = true
    rw [flat_tx L]
    rfl
def langs : List V := ["near", "far"].map tx
def spChk (CL : Addr) : Sp := fun vs H Q E => ∃ x : V, vs = [x] ∧ flatV x = true ∧ (inV x langs = true → Q .non H) ∧ (inV x langs = false → ∀ d H', Same H H' → H' d = some (.xd (fsIL [tx "language", .int 0])) → E (.ref CL) (some d) H')
abbrev s_check_language : Stmt := topS 17
theorem sc_check_language : FnScope ["language"] ["language"] (defScope s_check_language) := ⟨rfl, rfl, rfl, by decide +kernel, rfl, by decide +kernel, by decide +kernel⟩
theorem ok_chk {f : Addr} {fd : FuncData} (F : Fun K "check_language" "check_language" s_check_language f fd) (CN : Cn K w mg aL aN aF aP aT aK aNN aFN es en) (M_InvalidLexicon : ExS.MkX P w K mg base 1 "InvalidLexicon" CL okIL fsIL) : FnOk P w K mg base (L2.CX P w) 3 f fd ["language"] (spChk CL) := by
  refine F.okX sc_check_language (fun vs H Q E h => ?_) (fun cdv A outer s H vs Q E hr h => ?_)
  · obtain ⟨x, rfl, _⟩ := h
    rfl
  · obtain ⟨x, rfl, hx, q, qe⟩ := h
    refine ⟨_, (pss_one (ps_if (pt_cmpR op_notIn_seq (pv 0) (C8.pe_gc rfl CN.c_LANGUAGES) (by rfl))
      (pss_one (ps_raise rfl (takes_of (E := E) rfl rfl rfl rfl) (ExS.pmk_X M_InvalidLexicon hr (by omega) rfl (pa_cons pe_str (pa_cons pe_int pa_nil)))))
      pss_nil)), ?_⟩
    refine ⟨_, rfl, aL, langs, rfl, .inr (CN.t_LANGUAGES.sq _), hx, by decide +kernel, _, rfl, ?_⟩
    cases e : inV x langs with
    | true => exact iteF (q e)
    | false => exact iteT (ExS.mkx (by show 2 ≤ 1000; decide) ⟨_, _, rfl, by decide +kernel, ⟨by decide, by decide⟩⟩ fun d H2 s2 nd hd => qe e d H2 s2 hd)
def spClosed (aN aF : Addr) : Sp := fun vs H Q _ => ∃ b : Bool, vs = [tx (if b = true then "near" else "far")] ∧ Q (.ref (if b = true then aN else aF)) H
abbrev s_closed_words : Stmt := topS 18
theorem sc_closed_words : FnScope ["language"] ["language"] (defScope s_closed_words) := ⟨rfl, rfl, rfl, by decide +kernel, rfl, by decide +kernel, by decide +kernel⟩
theorem ok_closed {f : Addr} {fd : FuncData} (F : Fun K "closed_words" "closed_words" s_closed_words f fd) (CN : Cn K w mg aL aN aF aP aT aK aNN aFN es en) (C_check_language : ExS.CalX P w K mg base 3 "check_language" (spChk CL)) : FnOk P w K mg base (L2.CX P w) 4 f fd ["language"] (spClosed aN aF) := by
  refine F.okX sc_closed_words (fun vs H Q E h => ?_) (fun cdv A outer s H vs Q E hr h => ?_)
  · obtain ⟨x, rfl, _⟩ := h
    rfl
  · obtain ⟨b, rfl, q⟩ := h
    refine ⟨_, (pss_cons (ps_expr (ExS.pe_cX C_check_language hr (by omega) rfl (fun σ => passAt (W := fun cls d _ H => E cls d H) (takes_of rfl rfl rfl rfl) σ) (pa_cons (pv 0) pa_nil)))
    (pss_one (ps_ret (pe_ifExp (pt_cmpR op_eq (pv 0) pe_str (nomark _)) (C8.pe_gc rfl CN.c_NEAR_CLOSED) (C8.pe_gc rfl CN.c_FAR_CLOSED))))), ?_⟩
    refine ⟨_, rfl, _, rfl, by cases b <;> rfl, fun _ => ?_, fun z => by cases b <;> exact absurd z (by decide +kernel)⟩
    cases b with
    | true => exact ⟨_, rfl, rfl, _, rfl, iteT q⟩
    | false => exact ⟨_, rfl, rfl, _, rfl, iteF q⟩
/-! ### is_stem, entry_of -/
def spStem : Sp := fun vs H Q _ => ∃ (l : List Nat), vs = [.str (S l)] ∧ l.length ≤ 10000 ∧ ∀ H', Same H H' → Q (.bl (stem l)) H'
abbrev s_is_stem : Stmt := topS 19
theorem sc_is_stem : FnScope ["word", "sign"] ["word"] (defScope s_is_stem) := ⟨rfl, rfl, rfl, by decide +kernel, rfl, by decide +kernel, by decide +kernel⟩
theorem ok_stem {f : Addr} {fd : FuncData} (F : Fun K "is_stem" "is_stem" s_is_stem f fd) (T : Tx mg) : FnOk P w K mg base CX0 1 f fd ["word"] spStem := by
  refine F.ok sc_is_stem (fun vs H Q E h => ?_) (fun cdv A outer s H vs Q E hr h => ?_)
  · obtain ⟨l, rfl, _⟩ := h
    rfl
  · obtain ⟨l, rfl, hl, q⟩ := h
    refine ⟨_, (pss_one (ps_ret (pe_and (pe_chain op_le op_le pe_int (pe_callB call_len_str rfl T.n_len (by decide +kernel) (pa_cons (pv 0) pa_nil)) (C8.pe_gc rfl T.c_LONGEST)) (pe_one (pe_callB (cr_all rfl) rfl T.n_all (by decide +kernel) (pa_cons (pe_lc (own := [("sign", 1)]) rfl sc_is_stem.nd (pi_str (pv 0)) (blkOk_by (own := [("sign", 1)]) (N := ["word", "sign"]) (sc := defScope s_is_stem) (by decide +kernel)) (fun _ _ _ _ _ => (pg_name (i := 1) sc_is_stem.nd rfl (.inl rfl))) (fun _ _ _ _ _ => pts_nil) (fun _ _ _ _ _ => (pe_cmpR op_in_sign (pv 1) (C8.pe_gc rfl T.c_LETTERS) (by rfl)))) pa_nil)))))), ?_⟩
    have lS : (S l).length = l.length := S_len l
    have zS : (S l).length ≤ sizeLine := szL (by omega)
    refine ⟨_, rfl, S l, rfl, zS, _, _, rfl, rfl, _, rfl, ?_⟩
    rw [lS]
    by_cases h1 : 1 ≤ l.length
    · rw [decide_eq_true (show (1 : Int) ≤ (l.length : Nat) by omega)]
      refine iteT ⟨_, _, rfl, rfl, _, rfl, ?_⟩
      by_cases h2 : l.length ≤ 12
      · rw [decide_eq_true (show ((l.length : Nat) : Int) ≤ 12 by omega)]
        refine iteT ⟨_, rfl, S l, rfl, fun D nD => ?_⟩
        refine lc_it walk_str (fun i H3 => H3 D = some (.lst ((l.take i).map fun c => V.bl (decide (c ∈ LET)))) ∧ Same H H3) ?_ (fun _ _ _ _ => True.intro) ?_ ?_
        · exact ⟨upd_same, same_upd nD⟩
        · rintro i x H3 H4 hi ⟨h3, s3⟩ ⟨rfl, c, hc, rfl⟩
          have hc' : l[i]? = some c := by simpa using hc
          have hil := (List.getElem?_eq_some_iff.mp hc').1
          refine ⟨rfl, _, rfl, _, _, rfl, rfl, _, h3, szl (by rw [List.length_map, List.length_take]; omega), ?_, same_mut s3 nD⟩
          rw [upd_same, List.take_add_one, hc', List.map_append]
          rfl
        · rintro H3 ⟨h3, s3⟩
          have hsz : (S l).cps.size = l.length := by show l.toArray.size = _; simp
          rw [hsz, List.take_length] at h3
          refine ⟨D, l.map fun c => decide (c ∈ LET), rfl, .inl (.inl (by rw [List.map_map]; exact h3)), ?_⟩
          have e : ((l.map fun c => decide (c ∈ LET)).all id) = stem l := by
            unfold stem
            rw [decide_eq_true h1, decide_eq_true h2, List.all_map]
            rfl
          rw [e]
          exact q _ s3
      · rw [decide_eq_false (show ¬ ((l.length : Nat) : Int) ≤ 12 by omega)]
        refine iteF ?_
        have e : stem l = false := by unfold stem; rw [decide_eq_false h2, Bool.and_false, Bool.false_and]
        rw [← e]
        exact q _ fun _ _ z => z
    · rw [decide_eq_false (show ¬ (1 : Int) ≤ (l.length : Nat) by omega)]
      refine iteF ⟨_, rfl, iteF ?_⟩
      have e : stem l = false := by unfold stem; rw [decide_eq_false h1, Bool.false_and, Bool.false_and]
      rw [← e]
      exact q _ fun _ _ z => z
def pV (p : Option (List Nat)) : V := match p with
  | none => .non
  | some l => .str (S l)
def rowV (r : Ent) : List V := [.str (S r.k), .str (S r.n), .str (S r.f), pV r.p]
def spEntry : Sp := fun vs H Q _ => ∃ (l : List Nat), vs = [.str (S l)] ∧ l.length ≤ 5000 ∧ ∀ H' v, Same H H' → (match entryOf l with
  | none => v = .non
  | some r => ∃ p, v = .ref p ∧ H p = none ∧ H' p = some (.tup (rowV r))) → Q v H'
theorem kd_at (CN : Cn K w mg aL aN aF aP aT aK aNN aFN es en) (k : List Nat) : (k ∈ kinds3 → ∃ t : Tok, PySem.W.nsIn K aK (S k) = some (some (.int 3 t))) ∧ (k = sN "name" → ∃ t : Tok, PySem.W.nsIn K aK (S k) = some (some (.int 4 t))) ∧ (k ∉ kinds3 → k ≠ sN "name" → PySem.W.nsIn K aK (S k) = some none) := by
  have e : ∀ s : String, S k = PySem.Str.ofString s ↔ k = sN s := fun s => by rw [S_sN]; exact S_inj
  refine ⟨fun h => ?_, fun h => ?_, fun h1 h2 => CN.k_other _ (fun z => ?_) (fun z => ?_) (fun z => ?_) fun z => ?_⟩
  · have : k = sN "noun" ∨ k = sN "adj" ∨ k = sN "verb" := by simpa [kinds3] using h
    rcases this with z | z | z
    · rw [(e _).mpr z]; exact CN.k_noun
    · rw [(e _).mpr z]; exact CN.k_adj
    · rw [(e _).mpr z]; exact CN.k_verb
  · rw [(e _).mpr h]; exact CN.k_name
  · exact h1 (by rw [(e _).mp z]; simp [kinds3])
  · exact h1 (by rw [(e _).mp z]; simp [kinds3])
  · exact h1 (by rw [(e _).mp z]; simp [kinds3])
  · exact h2 ((e _).mp z)
abbrev s_entry_of : Stmt := topS 20
theorem sc_entry_of : FnScope ["line", "words"] ["line"] (defScope s_entry_of) := ⟨rfl, rfl, rfl, by decide +kernel, rfl, by decide +kernel, by decide +kernel⟩
theorem ok_entry {f : Addr} {fd : FuncData} (F : Fun K "entry_of" "entry_of" s_entry_of f fd) (T : Tx mg) (CN : Cn K w mg aL aN aF aP aT aK aNN aFN es en) (C_is_stem : C8.Cal P w K mg base 1 "is_stem" spStem []) : FnOk P w K mg base CX0 2 f fd ["line"] spEntry := by
  refine F.ok sc_entry_of (fun vs H Q E h => ?_) (fun cdv A outer s H vs Q E hr h => ?_)
  · obtain ⟨l, rfl, _⟩ := h
    rfl
  · obtain ⟨l, rfl, hl, q⟩ := h
    refine ⟨_, (pss_cons (ps_set (i := 1) sc_entry_of.nd rfl (.inl rfl) (pe_ifExp (pt_val (pe_callB call_isi rfl T.n_isinstance (by decide +kernel) (pa_cons (pv 0) (pa_cons (pe_bltn (v := .ty "str") (u := .type "str") rfl T.n_str (by decide +kernel) rfl) pa_nil)))) (pe_split (pv 0) pe_str) (pe_lst (pa_cons pe_str pa_nil))))
    (C8.pss_cut (ps_if (PW.pt (pw_or (pt_cmpR (op_notIn_kd CN.d_KINDS) (pe_ix ix_list (pv 1) pe_int (fun _ _ => rfl)) (C8.pe_gc rfl CN.c_KINDS) (by rfl)) (pw_or (pt_cmpR op_ne (pe_callB call_len_seq rfl T.n_len (by decide +kernel) (pa_cons (pv 1) pa_nil)) (pe_ix ix_kdict (C8.pe_gc rfl CN.c_KINDS) (pe_ix ix_list (pv 1) pe_int (fun _ _ => rfl)) (fun _ _ => rfl)) (nomark _)) (pw_or (pt_not (pt_val (C8.pe_c C_is_stem hr (by omega) rfl (pa_cons (pe_ix ix_list (pv 1) pe_int (fun _ _ => rfl)) pa_nil)))) (pw_or1 (pt_not (pt_val (C8.pe_c C_is_stem hr (by omega) rfl (pa_cons (pe_ix ix_list (pv 1) pe_int (fun _ _ => rfl)) pa_nil)))))))))
      (pss_one (ps_ret pe_non))
      pss_nil)
    (C8.pss_cut (ps_if (PW.pt (pw_and (pt_cmpR op_eq (pe_ix ix_list (pv 1) pe_int (fun _ _ => rfl)) pe_str (nomark _)) (pw_and1 (pt_cmpR op_notIn_seq (pe_ix ix_list (pv 1) pe_int (fun _ _ => rfl)) (C8.pe_gc rfl CN.c_PERSONS) (by rfl)))))
      (pss_one (ps_ret pe_non))
      pss_nil)
    (pss_one (ps_ret (pe_tup (pa_cons (pe_ix ix_list (pv 1) pe_int (fun _ _ => rfl)) (pa_cons (pe_ix ix_list (pv 1) pe_int (fun _ _ => rfl)) (pa_cons (pe_ix ix_list (pv 1) pe_int (fun _ _ => rfl)) (pa_cons (pe_ifExp (pt_cmpR op_eq (pe_ix ix_list (pv 1) pe_int (fun _ _ => rfl)) pe_str (nomark _)) (pe_ix ix_list (pv 1) pe_int (fun _ _ => rfl)) pe_non) pa_nil)))))))))), ?_⟩
    have lS : (S l).length = l.length := S_len l
    refine ⟨_, rfl, .str (S l), _, .type "str", _, true, rfl, .ty _, .base (.str _), kit_ty (by decide +kernel), _, rfl, iteT ?_⟩
    refine ⟨.str (S l), rfl, ⟨_, rfl⟩, S l, ⟨#[32]⟩, rfl, rfl, rfl, szL (by omega), fun p np => ?_⟩
    rw [split_parts]
    obtain ⟨W, hW⟩ : ∃ W, W = parts 32 l := ⟨_, rfl⟩
    have hps := parts_short 32 l
    rw [← hW] at hps
    have hne : W ≠ [] := by rw [hW]; exact parts_ne 32 l
    have hen : entryOf l = entW W := by rw [hW]; rfl
    rw [hen] at q
    obtain ⟨k, rest, hk⟩ : ∃ k rest, W = k :: rest := by
      cases W with
      | nil => exact absurd rfl hne
      | cons k rest => exact ⟨k, rest, rfl⟩
    have kd := kd_at CN k
    rw [← hW]
    have at_ : ∀ {i : Nat} {x : List Nat}, W[i]? = some x → atI ((W.map S).map V.str) (i : Int) = some (.str (S x)) := fun {i x} h => atI_ofNat (by omega) (by rw [Int.toNat_natCast, List.getElem?_map, List.getElem?_map, h]; rfl)
    have ll : ((W.map S).map V.str).length = W.length := by rw [List.length_map, List.length_map]
    have at0 : atI ((W.map S).map V.str) 0 = some (.str (S k)) := at_ (i := 0) (by rw [hk]; rfl)
    have hp : ∀ {H1 : Hp}, Same (upd H p (.lst ((W.map S).map V.str))) H1 → SqL K H1 p ((W.map S).map V.str) := fun s => .inl (.inl (s _ _ upd_same))
    refine ⟨fun σ' H' => Same (upd H p (.lst ((W.map S).map V.str))) H' ∧ σ' = [some (.str (S l)), some (.ref p)] ∧ ∃ n f rest2, W = k :: n :: f :: rest2 ∧ stem n = true ∧ stem f = true ∧ ((k ∈ kinds3 ∧ rest2 = []) ∨ (k = sN "name" ∧ ∃ x, rest2 = [x])), ?_, ?_⟩
    · refine ⟨_, rfl, p, _, _, _, rfl, rfl, .inl (.inl upd_same), at0, ?_⟩
      have qn : ∀ {H1 : Hp}, Same (upd H p (.lst ((W.map S).map V.str))) H1 → entW W = none → Q .non H1 := fun {H1} s1 e => q H1 .non ((same_upd np).trans s1) (by rw [e])
      have s0 : Same (upd H p (.lst ((W.map S).map V.str))) (upd H p (.lst ((W.map S).map V.str))) := fun _ _ z => z
      by_cases hkk : k ∈ kinds3 ∨ k = sN "name"
      · obtain ⟨m, t0, hm1, hm2⟩ : ∃ (m : Nat) (t0 : Tok), PySem.W.nsIn K aK (S k) = some (some (.int (m : Nat) t0)) ∧ ((k ∈ kinds3 ∧ m = 3) ∨ (k = sN "name" ∧ m = 4)) := by
          rcases hkk with z | z
          · exact let ⟨t0, e0⟩ := kd.1 z; ⟨3, t0, e0, .inl ⟨z, rfl⟩⟩
          · exact let ⟨t0, e0⟩ := kd.2.1 z; ⟨4, t0, e0, .inr ⟨z, rfl⟩⟩
        refine ⟨S k, _, rfl, rfl, hm1, _, rfl, iteF ?_⟩
        refine ⟨_, rfl, p, _, rfl, .inl (.inl (.inl upd_same)), _, rfl, p, _, _, _, rfl, rfl, .inl (.inl upd_same), at0, aK, S k, .int (m : Nat), rfl, rfl, ⟨es, en, _, CN.d_KINDS.at_, CN.d_KINDS.lit, hm1, ⟨_, rfl⟩⟩, rfl, _, rfl, ?_⟩
        rw [ll]
        by_cases hlen : W.length = m
        · obtain ⟨n, f, rest2, hW2⟩ : ∃ n f rest2, W = k :: n :: f :: rest2 := by
            rw [hk] at hlen ⊢
            match rest, hlen with
            | [], h => simp at h; omega
            | [_], h => simp at h; omega
            | n :: f :: r2, _ => exact ⟨n, f, r2, rfl⟩
          have sh : (k ∈ kinds3 ∧ rest2 = []) ∨ (k = sN "name" ∧ ∃ x, rest2 = [x]) := by
            have hl2 : rest2.length + 3 = m := by rw [← hlen, hW2]; rfl
            rcases hm2 with ⟨a, b⟩ | ⟨a, b⟩
            · exact .inl ⟨a, List.length_eq_zero_iff.mp (by omega)⟩
            · refine .inr ⟨a, ?_⟩
              match rest2, hl2 with
              | [x], _ => exact ⟨x, rfl⟩
              | [], h => simp at h; omega
              | _ :: _ :: _, h => simp at h; omega
          rw [show (!decide (V.int (W.length : Nat) = V.int (m : Nat))) = false by rw [hlen]; simp]
          refine iteF ?_
          have hn : n.length ≤ 10000 := by have := hps n (by rw [hW2]; simp); omega
          have hf : f.length ≤ 10000 := by have := hps f (by rw [hW2]; simp); omega
          refine ⟨_, rfl, p, _, _, _, rfl, rfl, .inl (.inl upd_same), at_ (i := 1) (by rw [hW2]; rfl), n, rfl, hn, fun H1 s1 => ⟨_, rfl, ?_⟩⟩
          cases en1 : stem n with
          | false =>
            refine iteT (qn s1 (entW_bad fun k' n' f' r' e z _ _ => ?_))
            rw [hW2] at e
            injection e with _ e
            injection e with e _
            rw [← e, en1] at z
            cases z
          | true =>
            refine iteF ⟨_, rfl, p, _, _, _, rfl, rfl, hp s1, at_ (i := 2) (by rw [hW2]; rfl), f, rfl, hf, fun H2 s2 => ⟨_, rfl, ?_⟩⟩
            cases ef1 : stem f with
            | false =>
              refine iteT (qn (s1.trans s2) (entW_bad fun k' n' f' r' e _ z _ => ?_))
              rw [hW2] at e
              injection e with _ e
              injection e with _ e
              injection e with e _
              rw [← e, ef1] at z
              cases z
            | true => exact iteF ⟨s1.trans s2, rfl, n, f, rest2, hW2, en1, ef1, sh⟩
        · rw [show (!decide (V.int (W.length : Nat) = V.int (m : Nat))) = true by
            rw [Bool.not_eq_true', decide_eq_false_iff_not]
            intro z
            have := V.int.inj z
            omega]
          refine iteT (qn s0 (entW_bad fun k' n' f' r' e _ _ z => ?_))
          have ek : k' = k := by rw [hk] at e; injection e with e _; exact e.symm
          subst ek
          rcases z with ⟨a, rfl⟩ | ⟨a, x, _, rfl⟩
          · rcases hm2 with ⟨_, b⟩ | ⟨b, _⟩
            · exact hlen (by rw [e, b]; rfl)
            · exact name_kinds (b ▸ a)
          · rcases hm2 with ⟨b, _⟩ | ⟨_, b⟩
            · exact name_kinds (a ▸ b)
            · exact hlen (by rw [e, b]; rfl)
      · have hk1 : k ∉ kinds3 := fun z => hkk (.inl z)
        have hk2 : k ≠ sN "name" := fun z => hkk (.inr z)
        refine ⟨S k, none, rfl, rfl, kd.2.2 hk1 hk2, _, rfl, iteT (qn s0 (entW_bad fun k' n' f' r' e _ _ z => ?_))⟩
        have ek : k' = k := by rw [hk] at e; injection e with e _; exact e.symm
        subst ek
        rcases z with ⟨a, _⟩ | ⟨a, _⟩
        · exact hk1 a
        · exact hk2 a
    · rintro σ' H1 ⟨s1, rfl, n, f, rest2, hW2, en1, ef1, sh⟩
      have e0 : (PySem.Str.ofString "name") = S (sN "name") := S_sN _
      have hn0 : H1 p = some _ := s1 _ _ upd_same
      refine ⟨fun σ' H' => Same (upd H p (.lst ((W.map S).map V.str))) H' ∧ σ' = [some (.str (S l)), some (.ref p)] ∧ ((k ∈ kinds3 ∧ rest2 = []) ∨ (k = sN "name" ∧ ∃ x ∈ persons, rest2 = [x])), ?_, ?_⟩
      · refine ⟨_, rfl, p, _, _, _, rfl, rfl, hp s1, at0, rfl, _, rfl, ?_⟩
        rcases sh with ⟨a, b⟩ | ⟨a, x, b⟩
        · have : k ≠ sN "name" := fun z => name_kinds (z ▸ a)
          rw [show decide (V.str (S k) = V.str (PySem.Str.ofString "name")) = false by
            rw [decide_eq_false_iff_not, e0]
            intro z
            exact this (S_inj.mp (V.str.inj z))]
          exact iteF ⟨s1, rfl, .inl ⟨a, b⟩⟩
        · rw [show decide (V.str (S k) = V.str (PySem.Str.ofString "name")) = true by rw [decide_eq_true_eq, e0, a]]
          refine iteT ⟨_, rfl, p, _, _, _, rfl, rfl, hp s1, at_ (i := 3) (x := x) (by rw [hW2, b]; rfl), aP, _, rfl, .inr (CN.t_PERSONS.sq _), rfl, flat_tx _, _, rfl, ?_⟩
          rw [inV_tx]
          by_cases hx : x ∈ persons
          · rw [show decide (x ∈ ["he", "she", "it"].map sN) = true from decide_eq_true hx]
            exact iteF ⟨s1, rfl, .inr ⟨a, x, hx, b⟩⟩
          · rw [show decide (x ∈ ["he", "she", "it"].map sN) = false from decide_eq_false hx]
            refine iteT (q _ _ ((same_upd np).trans s1) ?_)
            rw [show entW W = none from entW_bad fun k' n' f' r' e _ _ z => ?_]
            rw [hW2] at e
            injection e with e1 e
            injection e with _ e
            injection e with _ e
            rcases z with ⟨c, _⟩ | ⟨_, y, c, d⟩
            · exact name_kinds (by rw [← a, e1]; exact c)
            · rw [b, d] at e
              injection e with e _
              exact hx (e ▸ c)
      · rintro σ' H2 ⟨s2, rfl, sh2⟩
        have hent : entW W = some ⟨k, n, f, rest2.head?⟩ := by
          rw [hW2]
          rcases sh2 with ⟨a, b⟩ | ⟨a, x, c, b⟩
          · subst b
            show (if k ∈ kinds3 ∧ stem n = true ∧ stem f = true then some (⟨k, n, f, none⟩ : Ent) else none) = _
            rw [if_pos ⟨a, en1, ef1⟩]
            rfl
          · subst b
            show (if k = sN "name" ∧ stem n = true ∧ stem f = true ∧ x ∈ persons then some (⟨k, n, f, some x⟩ : Ent) else none) = _
            rw [if_pos ⟨a, en1, ef1, c⟩]
            rfl
        refine ⟨_, rfl, p, _, _, _, rfl, rfl, hp s2, at0, _, rfl, p, _, _, _, rfl, rfl, hp s2, at_ (i := 1) (x := n) (by rw [hW2]; rfl), _, rfl, p, _, _, _, rfl, rfl, hp s2, at_ (i := 2) (x := f) (by rw [hW2]; rfl), ?_⟩
        refine ⟨_, rfl, p, _, _, _, rfl, rfl, hp s2, at0, rfl, _, rfl, ?_⟩
        have fin : ∀ (v : V), v = pV rest2.head? → ∀ t, H2 t = none → Q (.ref t) (upd H2 t (.tup [.str (S k), .str (S n), .str (S f), v])) := fun v hv t nt => q _ _ (((same_upd np).trans s2).trans (same_upd nt)) (by
          rw [hent]
          exact ⟨t, rfl, ((same_upd np).trans s2).free nt, by rw [upd_same, hv]; rfl⟩)
        rcases sh2 with ⟨a, b⟩ | ⟨a, x, c, b⟩
        · have : k ≠ sN "name" := fun z => name_kinds (z ▸ a)
          rw [show decide (V.str (S k) = V.str (PySem.Str.ofString "name")) = false by
            rw [decide_eq_false_iff_not, e0]
            intro z
            exact this (S_inj.mp (V.str.inj z))]
          exact iteF ⟨by show 4 ≤ sizeLine; decide, fun t nt => fin _ (by rw [b]; rfl) t nt⟩
        · rw [show decide (V.str (S k) = V.str (PySem.Str.ofString "name")) = true by rw [decide_eq_true_eq, e0, a]]
          exact iteT ⟨_, rfl, p, _, _, _, rfl, rfl, hp s2, at_ (i := 3) (x := x) (by rw [hW2, b]; rfl), by show 4 ≤ sizeLine; decide, fun t nt => fin _ (by rw [b]; rfl) t nt⟩
end
end K34
set_option Elab.async false
set_option linter.all false
set_option maxRecDepth 100000
set_option maxHeartbeats 4000000
namespace K34
open PySem PySem.Spec PyProof.Rows L2 Tw Tk Lx
section
variable {P : Program} {w : World} {K : PySem.W.Frag} {mg : Str → Option Value} {base : Heap} {CT CI CL CM CX_ aL aN aF aP aT aK aNN aFN : Addr} {es : Array DictEntry} {en : Nat}
/-! ### Lexicon.put -/
def kyK (k lang s : List Nat) : List Key := [Sum.inr (S k), Sum.inr (S lang), Sum.inr (S s)]
theorem kyK_inj {k lang s k' lang' s' : List Nat} (h : kyK k lang s = kyK k' lang' s') : k = k' ∧ lang = lang' ∧ s = s' := by
  unfold kyK at h
  injection h with h1 h
  injection h with h2 h
  injection h with h3 _
  injection h1 with h1
  injection h2 with h2
  injection h3 with h3
  exact ⟨S_inj.mp h1, S_inj.mp h2, S_inj.mp h3⟩
/-- the numbers of a lexicon -/
structure Num (kvs : List (List Key × V)) (rows : List Ent) : Prop where
  val : ∀ k lang s v, valV kvs (kyK k lang s) = some v ↔ (ThingKey k lang s ∧ v = .int (-1)) ∨ ∃ (i : Nat) (r : Ent), rows[i]? = some r ∧ v = .int (i : Nat) ∧ HasKey r k lang s
  len : kvs.length ≤ 2 + 2 * rows.length
theorem Num.has {kvs : List (List Key × V)} {rows : List Ent} (n : Num kvs rows) {k lang s : List Nat} : (valV kvs (kyK k lang s)).isSome = true ↔ Taken rows k lang s := by
  cases e : valV kvs (kyK k lang s) with
  | none =>
    refine ⟨fun z => (by cases z), fun h => ?_⟩
    rcases h with h | ⟨i, r, h1, h2⟩
    · rw [(n.val k lang s _).mpr (.inl ⟨h, rfl⟩)] at e; cases e
    · rw [(n.val k lang s _).mpr (.inr ⟨i, r, h1, rfl, h2⟩)] at e; cases e
  | some v =>
    refine ⟨fun _ => ?_, fun _ => rfl⟩
    rcases (n.val k lang s v).mp e with ⟨h, _⟩ | ⟨i, r, h1, _, h2⟩
    · exact .inl h
    · exact .inr ⟨i, r, h1, h2⟩
theorem near_far : sN "near" ≠ sN "far" := by decide +kernel
theorem Num.put {kvs : List (List Key × V)} {rows : List Ent} (n : Num kvs rows) (r : Ent) (t1 : ¬ Taken rows r.k (sN "near") r.n) (t2 : ¬ Taken rows r.k (sN "far") r.f) :
    Num (putK (putK kvs (kyK r.k (sN "near") r.n) (.int (rows.length : Nat))) (kyK r.k (sN "far") r.f) (.int (rows.length : Nat))) (rows ++ [r]) := by
  have old : ∀ {k lang s : List Nat} {i : Nat} {q : Ent}, (rows ++ [r])[i]? = some q → HasKey q k lang s → Taken rows k lang s ∨ (i = rows.length ∧ q = r) := fun {k lang s i q} h1 h2 => by
    by_cases z : i < rows.length
    · rw [List.getElem?_append_left z] at h1
      exact .inl (.inr ⟨i, q, h1, h2⟩)
    · rw [List.getElem?_append_right (by omega)] at h1
      have : i - rows.length = 0 := by
        by_cases y : i - rows.length = 0
        · exact y
        · rw [List.getElem?_eq_none (by simp; omega)] at h1; cases h1
      rw [this] at h1
      exact .inr ⟨by omega, (Option.some.inj h1).symm⟩
  have new : (rows ++ [r])[rows.length]? = some r := by rw [List.getElem?_append_right (Nat.le_refl _), Nat.sub_self]; rfl
  refine ⟨fun k lang s v => ?_, ?_⟩
  · rw [valV_put, valV_put]
    by_cases e2 : kyK k lang s = kyK r.k (sN "far") r.f
    · rw [if_pos e2]
      obtain ⟨a1, a2, a3⟩ := kyK_inj e2
      subst a1 a2 a3
      constructor
      · intro h
        exact .inr ⟨_, r, new, (Option.some.inj h).symm, rfl, .inr ⟨rfl, rfl⟩⟩
      · rintro (⟨h, _⟩ | ⟨i, q, h1, h2, h3⟩)
        · exact absurd (.inl h) t2
        · rcases old h1 h3 with z | ⟨z, _⟩
          · exact absurd z t2
          · rw [h2, z]
    · rw [if_neg e2]
      by_cases e1 : kyK k lang s = kyK r.k (sN "near") r.n
      · rw [if_pos e1]
        obtain ⟨a1, a2, a3⟩ := kyK_inj e1
        subst a1 a2 a3
        constructor
        · intro h
          exact .inr ⟨_, r, new, (Option.some.inj h).symm, rfl, .inl ⟨rfl, rfl⟩⟩
        · rintro (⟨h, _⟩ | ⟨i, q, h1, h2, h3⟩)
          · exact absurd (.inl h) t1
          · rcases old h1 h3 with z | ⟨z, _⟩
            · exact absurd z t1
            · rw [h2, z]
      · rw [if_neg e1, n.val]
        constructor
        · rintro (h | ⟨i, q, h1, h2, h3⟩)
          · exact .inl h
          · exact .inr ⟨i, q, by rw [List.getElem?_append_left (List.getElem?_eq_some_iff.mp h1).1]; exact h1, h2, h3⟩
        · rintro (h | ⟨i, q, h1, h2, h3⟩)
          · exact .inl h
          · by_cases z : i < rows.length
            · rw [List.getElem?_append_left z] at h1
              exact .inr ⟨i, q, h1, h2, h3⟩
            · exfalso
              rw [List.getElem?_append_right (by omega)] at h1
              have : i - rows.length = 0 := by
                by_cases y : i - rows.length = 0
                · exact y
                · rw [List.getElem?_eq_none (by simp; omega)] at h1; cases h1
              rw [this] at h1
              have eq : r = q := Option.some.inj h1
              subst eq
              obtain ⟨b1, b2⟩ := h3
              rcases b2 with ⟨b2, b3⟩ | ⟨b2, b3⟩
              · exact e1 (by rw [b1, b2, b3])
              · exact e2 (by rw [b1, b2, b3])
  · have l1 := length_putK (putK kvs (kyK r.k (sN "near") r.n) (.int (rows.length : Nat))) (kyK r.k (sN "far") r.f) (.int (rows.length : Nat))
    have l2 := length_putK kvs (kyK r.k (sN "near") r.n) (.int (rows.length : Nat))
    have := n.len
    rw [List.length_append]
    simp
    omega
def Ents (H : Hp) (vs : List V) (rows : List Ent) : Prop := vs.length = rows.length ∧ ∀ (i : Nat) (r : Ent), rows[i]? = some r → ∃ q, vs[i]? = some (.ref q) ∧ H q = some (.tup (rowV r))
/-- a lexicon: its list at t, its numbers at d -/
def LexAt (C : Addr) (H : Hp) (a t d : Addr) (rows : List Ent) : Prop := ∃ (dx : Addr) (vs : List V) (kvs : List (List Key × V)), H a = some (.ins C dx [("told", .ref t), ("numbers", .ref d)]) ∧ H t = some (.lst vs) ∧ Ents H vs rows ∧ H d = some (.dT kvs) ∧ Num kvs rows
def Fr2 (t d : Addr) (H H' : Hp) : Prop := ∀ b o, H b = some o → b ≠ t → b ≠ d → H' b = some o
theorem Ents.same {H H' : Hp} {vs : List V} {rows : List Ent} (e : Ents H vs rows) (s : Same H H') : Ents H' vs rows := ⟨e.1, fun i r h => let ⟨q, a, b⟩ := e.2 i r h; ⟨q, a, s _ _ b⟩⟩
theorem LexAt.same {C a t d : Addr} {H H' : Hp} {rows : List Ent} (h : LexAt C H a t d rows) (s : Same H H') : LexAt C H' a t d rows := by
  obtain ⟨dx, vs, kvs, h1, h2, h3, h4, h5⟩ := h
  exact ⟨dx, vs, kvs, s _ _ h1, s _ _ h2, h3.same s, s _ _ h4, h5⟩
/-- what the class of lexicons must have -/
structure LexC (K : PySem.W.Frag) (C : Addr) : Prop where
  cl : Cls K C
  n_told : NoAttr K C "told"
  n_numbers : NoAttr K C "numbers"
theorem fs_told {t d : Addr} : List.lookup ("told" : Str) [(("told" : Str), V.ref t), (("numbers" : Str), V.ref d)] = some (V.ref t) := by rfl
theorem fs_numbers {t d : Addr} : List.lookup ("numbers" : Str) [(("told" : Str), V.ref t), (("numbers" : Str), V.ref d)] = some (V.ref d) := by rfl
def spPut (C CL : Addr) : Sp := fun vs H Q E => ∃ (a t d : Addr) (l : List Nat) (at_ : Int) (rows : List Ent), vs = [.ref a, .str (S l), .int at_] ∧ few at_ ∧ l.length ≤ 5000 ∧ LexAt C H a t d rows ∧ rows.length ≤ 1000 ∧
  (∀ rows', Add rows l (some rows') "" → ∀ H', Fr2 t d H H' → LexAt C H' a t d rows' → Q .non H') ∧
  (∀ z, Add rows l none z → ∀ e H', Same H H' → H' e = some (.xd (fsIL [tx z, .int at_])) → E (.ref CL) (some e) H')
abbrev s_Lexicon_put : Stmt := ExS.methS (topS 21) 1
theorem sc_Lexicon_put : FnScope ["self", "line", "at", "entry", "keys", "key"] ["self", "line", "at"] (defScope s_Lexicon_put) := ⟨rfl, rfl, rfl, by decide +kernel, rfl, by decide +kernel, by decide +kernel⟩
theorem ok_put {C : Addr} {f : Addr} {fd : FuncData} (F : Fun K "put" "Lexicon.put" s_Lexicon_put f fd) (T : Tx mg) (CN : Cn K w mg aL aN aF aP aT aK aNN aFN es en) (LC : LexC K C) (M_InvalidLexicon : ExS.MkX P w K mg base 1 "InvalidLexicon" CL okIL fsIL) (C_entry_of : C8.Cal P w K mg base 2 "entry_of" spEntry []) : FnOk P w K mg base (L2.CX P w) 3 f fd ["self", "line", "at"] (spPut C CL) := by
  refine F.okX sc_Lexicon_put (fun vs H Q E h => ?_) (fun cdv A outer s H vs Q E hr h => ?_)
  · obtain ⟨a, t, d, l, at_, rows, rfl, _⟩ := h
    rfl
  · obtain ⟨a, t, d, l, at_, rows, rfl, hat, hl, hlex, hrl, q, qe⟩ := h
    refine ⟨_, (pss_cons (ps_set (i := 3) sc_Lexicon_put.nd rfl (.inl rfl) (C8.pe_c C_entry_of hr (by omega) rfl (pa_cons (pv 1) pa_nil)))
    (pss_cons (ps_if (pt_cmpR op_isN (pv 3) pe_non (nomark _))
      (pss_one (ps_raise rfl (takes_of (E := E) rfl rfl rfl rfl) (ExS.pmk_X M_InvalidLexicon hr (by omega) rfl (pa_cons pe_str (pa_cons (pv 2) pa_nil)))))
      pss_nil)
    (C8.pss_cut (ps_if (PW.pt (pw_or (pt_cmpR op_in_seq (pe_ix ix_tup (pv 3) pe_int (fun _ _ => rfl)) (C8.pe_gc rfl CN.c_NEAR_CLOSED) (by rfl)) (pw_or1 (pt_cmpR op_in_seq (pe_ix ix_tup (pv 3) pe_int (fun _ _ => rfl)) (C8.pe_gc rfl CN.c_FAR_CLOSED) (by rfl)))))
      (pss_one (ps_raise rfl (takes_of (E := E) rfl rfl rfl rfl) (ExS.pmk_X M_InvalidLexicon hr (by omega) rfl (pa_cons pe_str (pa_cons (pv 2) pa_nil)))))
      pss_nil)
    (pss_cons (ps_set (i := 4) sc_Lexicon_put.nd rfl (.inl rfl) (pe_lst (pa_cons (pe_tup (pa_cons (pe_ix ix_tup (pv 3) pe_int (fun _ _ => rfl)) (pa_cons pe_str (pa_cons (pe_ix ix_tup (pv 3) pe_int (fun _ _ => rfl)) pa_nil)))) (pa_cons (pe_tup (pa_cons (pe_ix ix_tup (pv 3) pe_int (fun _ _ => rfl)) (pa_cons pe_str (pa_cons (pe_ix ix_tup (pv 3) pe_int (fun _ _ => rfl)) pa_nil)))) pa_nil))))
    (pss_cons (ps_if (pt_val (pe_callB (cr_any rfl) rfl T.n_any (by decide +kernel) (pa_cons (pe_lc (own := [("key", 5)]) rfl sc_Lexicon_put.nd (pi_list (pv 4)) (blkOk_by (own := [("key", 5)]) (N := ["self", "line", "at", "entry", "keys", "key"]) (sc := defScope s_Lexicon_put) (by decide +kernel)) (fun _ _ _ _ _ => (pg_name (i := 5) sc_Lexicon_put.nd rfl (.inl rfl))) (fun _ _ _ _ _ => pts_nil) (fun _ _ _ _ _ => (pe_cmp (pc_din (hu_of hr) (pv 5) (LX.pe_fldK (K := K) rfl (pv 0) (by rfl))) rfl))) pa_nil)))
      (pss_one (ps_raise rfl (takes_of (E := E) rfl rfl rfl rfl) (ExS.pmk_X M_InvalidLexicon hr (by omega) rfl (pa_cons pe_str (pa_cons (pv 2) pa_nil)))))
      pss_nil)
    (pss_cons (ps_for (passes_of rfl) rfl (pi_list (pv 4)) (pg_name (i := 5) sc_Lexicon_put.nd rfl (.inl rfl))
      (pss_one (ps_dput (hu_of hr) (LX.pe_fldK (K := K) rfl (pv 0) (by rfl)) (pv 5) (pe_callB call_len_seq rfl T.n_len (by decide +kernel) (pa_cons (LX.pe_fldK (K := K) rfl (pv 0) (by rfl)) pa_nil)) rfl)))
    (pss_one (ps_expr (pe_bm PySem.F.plainAttrs_list PySem.F.slot_list_append PySem.F.type_list_append mt_append (LX.pe_fldK (K := K) rfl (pv 0) (by rfl)) (pa_cons (pv 3) pa_nil)))))))))), ?_⟩
    obtain ⟨dx, vs, kvs, ha, ht, hen, hd, hnum⟩ := hlex
    have vl := hen.1
    -- entry = entry_of(line)
    refine ⟨_, rfl, l, rfl, hl, fun H1 v s1 hv => ?_⟩
    cases e : entryOf l with
    | none =>
      rw [e] at hv
      subst hv
      exact ⟨_, rfl, rfl, _, rfl, iteT ⟨_, rfl, ExS.mkx (by show 2 ≤ 1000; decide) ⟨_, _, rfl, by decide +kernel, hat⟩ fun d2 H2 s2 nd hd2 => qe "form" (.form e) d2 H2 (s1.trans s2) hd2⟩⟩
    | some r =>
      rw [e] at hv
      obtain ⟨p, rfl, np, hp⟩ := hv
      have tp : ∀ {H' : Hp}, Same H1 H' → SqT K H' p (rowV r) := fun s => .inl (.inl (s _ _ hp))
      have sr : Same H1 H1 := fun _ _ z => z
      refine ⟨_, rfl, rfl, _, rfl, iteF ?_⟩
      refine ⟨fun σ' H' => σ' = [some (.ref a), some (.str (S l)), some (.int at_), some (.ref p), none, none] ∧ Same H1 H' ∧ closed r = false, ?_, ?_⟩
      · refine ⟨_, rfl, p, _, _, .str (S r.n), rfl, rfl, tp sr, atI_ofNat (by decide) rfl, aN, _, rfl, .inr (CN.t_NEAR_CLOSED.sq _), rfl, flat_tx _, _, rfl, ?_⟩
        rw [inV_tx]
        by_cases c1 : r.n ∈ nearC
        · rw [show decide (r.n ∈ nearClosed.map sN) = true from decide_eq_true c1]
          refine iteT ⟨_, rfl, ExS.mkx (by show 2 ≤ 1000; decide) ⟨_, _, rfl, by decide +kernel, hat⟩ fun d2 H2 s2 nd hd2 => qe "closed" (.closed e ?_) d2 H2 (s1.trans s2) hd2⟩
          unfold closed
          rw [decide_eq_true c1, Bool.true_or]
        · rw [show decide (r.n ∈ nearClosed.map sN) = false from decide_eq_false c1]
          refine iteF ⟨_, rfl, p, _, _, .str (S r.f), rfl, rfl, tp sr, atI_ofNat (by decide) rfl, aF, _, rfl, .inr (CN.t_FAR_CLOSED.sq _), rfl, flat_tx _, _, rfl, ?_⟩
          rw [inV_tx]
          by_cases c2 : r.f ∈ farC
          · rw [show decide (r.f ∈ farClosed.map sN) = true from decide_eq_true c2]
            refine iteT ⟨_, rfl, ExS.mkx (by show 2 ≤ 1000; decide) ⟨_, _, rfl, by decide +kernel, hat⟩ fun d2 H2 s2 nd hd2 => qe "closed" (.closed e ?_) d2 H2 (s1.trans s2) hd2⟩
            unfold closed
            rw [decide_eq_true c2, Bool.or_true]
          · rw [show decide (r.f ∈ farClosed.map sN) = false from decide_eq_false c2]
            refine iteF ⟨rfl, sr, ?_⟩
            unfold closed
            rw [decide_eq_false c1, decide_eq_false c2]
            rfl
      · rintro σ' H2 ⟨rfl, s2, hcl⟩
        have sS : ∀ {H' : Hp}, Same H2 H' → Same H1 H' := fun z => s2.trans z
        have s2r : Same H2 H2 := fun _ _ z => z
        -- keys
        refine ⟨_, rfl, p, _, _, .str (S r.k), rfl, rfl, tp s2, atI_ofNat (by decide) rfl, _, rfl, p, _, _, .str (S r.n), rfl, rfl, tp s2, atI_ofNat (by decide) rfl, by show 3 ≤ sizeLine; decide, fun t1 n1 => ?_⟩
        have sa : Same H2 (upd H2 t1 (.tup [.str (S r.k), .str (PySem.Str.ofString "near"), .str (S r.n)])) := same_upd n1
        refine ⟨_, rfl, p, _, _, .str (S r.k), rfl, rfl, tp (sS sa), atI_ofNat (by decide) rfl, _, rfl, p, _, _, .str (S r.f), rfl, rfl, tp (sS sa), atI_ofNat (by decide) rfl, by show 3 ≤ sizeLine; decide, fun t2 n2 => ?_⟩
        obtain ⟨H3, hH3⟩ : ∃ H3, H3 = upd (upd H2 t1 (.tup [.str (S r.k), .str (PySem.Str.ofString "near"), .str (S r.n)])) t2 (.tup [.str (S r.k), .str (PySem.Str.ofString "far"), .str (S r.f)]) := ⟨_, rfl⟩
        have sb : Same H2 H3 := by rw [hH3]; exact sa.trans (same_upd n2)
        have k1 : H3 t1 = some (.tup ((kyK r.k (sN "near") r.n).map kV)) := by rw [hH3]; exact (same_upd n2) _ _ upd_same
        have k2 : H3 t2 = some (.tup ((kyK r.k (sN "far") r.f).map kV)) := by rw [hH3]; exact upd_same
        rw [← hH3]
        refine ⟨by show 2 ≤ sizeLine; decide, fun ks nks => ?_⟩
        have sc := sb.trans (same_upd (o := HO.lst [V.ref t1, V.ref t2]) nks)
        have sd : Same H3 (upd H3 ks (.lst [V.ref t1, V.ref t2])) := same_upd nks
        have up : ∀ {H' : Hp} {b : Addr} {o : HO}, Same (upd H3 ks (.lst [V.ref t1, V.ref t2])) H' → H b = some o → H' b = some o := fun z h => z _ _ (sc _ _ (s2 _ _ (s1 _ _ h)))
        -- any
        obtain ⟨b1, hb1⟩ : ∃ b1, b1 = (valV kvs (kyK r.k (sN "near") r.n)).isSome := ⟨_, rfl⟩
        obtain ⟨b2, hb2⟩ : ∃ b2, b2 = (valV kvs (kyK r.k (sN "far") r.f)).isSome := ⟨_, rfl⟩
        refine ⟨_, rfl, ks, rfl, ⟨_, .inl (.inl upd_same)⟩, fun D nD => ?_⟩
        have elt : ∀ {H' : Hp} (tk : Addr) (ky : List Key), Same (upd H3 ks (.lst [V.ref t1, V.ref t2])) H' → H3 tk = some (.tup (ky.map kV)) → DGet H' d (.ref tk) (valV kvs ky) := fun tk ky z h => DGet.t (up z hd) (z _ _ (sd _ _ h))
        refine lc_list (xs := [V.ref t1, V.ref t2]) (fun i H' => Same (upd H3 ks (.lst [V.ref t1, V.ref t2])) H' ∧ H' D = some (.lst (([b1, b2].take i).map V.bl))) ⟨same_upd nD, upd_same⟩ ?_ ?_ ?_
        · rintro i H' _ ⟨z, _⟩
          exact .inl (.inl (z _ _ upd_same))
        · rintro i x H' hx ⟨z, hD⟩
          match i, hx with
          | 0, hx =>
            cases (show V.ref t1 = x from Option.some.inj hx)
            refine ⟨rfl, _, rfl, _, rfl, a, C, dx, _, _, rfl, up z ha, LC.cl, LC.n_numbers, fs_numbers, d, _, rfl, elt t1 _ z k1, _, hD, by show 0 < sizeLine; decide, same_mut z nD, ?_⟩
            rw [upd_same, ← hb1]
            rfl
          | 1, hx =>
            cases (show V.ref t2 = x from Option.some.inj hx)
            refine ⟨rfl, _, rfl, _, rfl, a, C, dx, _, _, rfl, up z ha, LC.cl, LC.n_numbers, fs_numbers, d, _, rfl, elt t2 _ z k2, _, hD, by show 1 < sizeLine; decide, same_mut z nD, ?_⟩
            rw [upd_same, ← hb2]
            rfl
          | i + 2, hx => simp at hx
        · rintro H4 ⟨z4, hD⟩
          refine ⟨D, [b1, b2], rfl, .inl (.inl hD), _, rfl, ?_⟩
          by_cases tk : Taken rows r.k (sN "near") r.n ∨ Taken rows r.k (sN "far") r.f
          · have hb : ([b1, b2].any id) = true := by
              rcases tk with tk | tk
              · have := hnum.has.mpr tk
                rw [← hb1] at this
                rw [this]; rfl
              · have := hnum.has.mpr tk
                rw [← hb2] at this
                rw [this]; cases b1 <;> rfl
            rw [hb]
            exact iteT ⟨_, rfl, ExS.mkx (by show 2 ≤ 1000; decide) ⟨_, _, rfl, by decide +kernel, hat⟩ fun d2 H5 s5 nd hd2 => qe "twice" (.twice e hcl tk) d2 H5 (((s1.trans s2).trans sc).trans (z4.trans s5)) hd2⟩
          · have tk1 : ¬ Taken rows r.k (sN "near") r.n := fun z => tk (.inl z)
            have tk2 : ¬ Taken rows r.k (sN "far") r.f := fun z => tk (.inr z)
            have e1 : b1 = false := by rw [hb1, Bool.eq_false_iff]; exact fun z => tk1 (hnum.has.mp z)
            have e2 : b2 = false := by rw [hb2, Bool.eq_false_iff]; exact fun z => tk2 (hnum.has.mp z)
            rw [e1, e2]
            refine iteF ?_
            have td : t ≠ d := fun z => by rw [z, hd] at ht; cases ht
            have ad : a ≠ d := fun z => by rw [z, hd] at ha; cases ha
            have at' : a ≠ t := fun z => by rw [z, ht] at ha; cases ha
            have dks : ks ≠ d := fun z => by
              have := sb _ _ (s2 _ _ (s1 _ _ hd))
              rw [z, this] at nks
              cases nks
            have dt : ∀ {tk : Addr} {xs : List V}, H3 tk = some (.tup xs) → tk ≠ d := fun {tk xs} h z => by
              have := sb _ _ (s2 _ _ (s1 _ _ hd))
              rw [z, this] at h
              cases h
            have base4 : ∀ {b : Addr} {o : HO}, H b = some o → H4 b = some o := fun h => up z4 h
            have lens : kvs.length ≤ 100000 := by have := hnum.len; omega
            have kvl : ∀ kv : List (List Key × V), kv.length ≤ 100000 → kv.length < sizeLine := fun kv h => Nat.lt_of_le_of_lt h (by decide)
            refine ⟨_, rfl, ks, rfl, ⟨_, .inl (.inl (z4 _ _ upd_same))⟩, ?_⟩
            refine for_list (xs := [V.ref t1, V.ref t2]) (fun i σ' H' => ∃ y5 : Option V, σ' = [some (.ref a), some (.str (S l)), some (.int at_), some (.ref p), some (.ref ks), y5] ∧ Kp d H4 H' ∧
              H' d = some (.dT (match i with | 0 => kvs | 1 => putK kvs (kyK r.k (sN "near") r.n) (.int (vs.length : Nat)) | _ => putK (putK kvs (kyK r.k (sN "near") r.n) (.int (vs.length : Nat))) (kyK r.k (sN "far") r.f) (.int (vs.length : Nat))))) ⟨_, rfl, Kp.refl _ _, base4 hd⟩ ?_ ?_ ?_
            · rintro i σ' H' _ ⟨y, _, z, _⟩
              exact .inl (.inl (z _ _ (z4 _ _ upd_same) dks))
            · rintro i x σ' H' hx ⟨y, rfl, z, hd'⟩
              have ha' : H' a = some _ := z _ _ (base4 ha) ad
              have ht' : H' t = some _ := z _ _ (base4 ht) td
              match i, hx, hd' with
              | 0, hx, hd' =>
                cases (show V.ref t1 = x from Option.some.inj hx)
                refine ⟨_, rfl, a, C, dx, _, _, rfl, ha', LC.cl, LC.n_told, fs_told, t, _, rfl, .inl (.inl (.inl ht')), _, rfl, a, C, dx, _, _, rfl, ha', LC.cl, LC.n_numbers, fs_numbers, _, rfl, d, _, rfl, .inr ⟨kvs, kyK r.k (sN "near") r.n, t1, hd', rfl, z _ _ (z4 _ _ (sd _ _ k1)) (dt k1), kvl _ lens, rfl⟩, ?_⟩
                exact ⟨_, rfl, z.trans Kp.upd, upd_same⟩
              | 1, hx, hd' =>
                cases (show V.ref t2 = x from Option.some.inj hx)
                refine ⟨_, rfl, a, C, dx, _, _, rfl, ha', LC.cl, LC.n_told, fs_told, t, _, rfl, .inl (.inl (.inl ht')), _, rfl, a, C, dx, _, _, rfl, ha', LC.cl, LC.n_numbers, fs_numbers, _, rfl, d, _, rfl, .inr ⟨_, kyK r.k (sN "far") r.f, t2, hd', rfl, z _ _ (z4 _ _ (sd _ _ k2)) (dt k2), kvl (putK kvs (kyK r.k (sN "near") r.n) (.int (vs.length : Nat))) (by have := length_putK kvs (kyK r.k (sN "near") r.n) (.int (vs.length : Nat)); have := hnum.len; omega), rfl⟩, ?_⟩
                exact ⟨_, rfl, z.trans Kp.upd, upd_same⟩
              | i + 2, hx, _ => simp at hx
            · rintro σ' H5 ⟨y, rfl, z, hd'⟩
              have ha' : H5 a = some _ := z _ _ (base4 ha) ad
              have ht' : H5 t = some _ := z _ _ (base4 ht) td
              refine ⟨_, rfl, a, C, dx, _, _, rfl, ha', LC.cl, LC.n_told, fs_told, .inl ⟨rfl, _, .inl (.inl ht')⟩, _, rfl, t, vs, _, rfl, rfl, ht', szl (by omega), ?_⟩
              have pk : ∀ {b : Addr} {xs : List V}, H5 b = some (.tup xs) → b ≠ t := fun {b xs} h q => by rw [q, ht'] at h; cases h
              have hp5 : H5 p = some (.tup (rowV r)) := z _ _ (z4 _ _ (sc _ _ (s2 _ _ hp))) fun q => by
                have := s1 _ _ hd
                rw [q, this] at hp
                cases hp
              refine q _ (.ok e hcl tk1 tk2) _ (fun b o hb h1 h2 => ?_) ⟨dx, vs ++ [.ref p], _, ?_, upd_same, ⟨?_, fun i r' hr' => ?_⟩, ?_, hnum.put r tk1 tk2⟩
              · rw [upd_ne h1]
                exact z _ _ (base4 hb) h2
              · rw [upd_ne at']
                exact ha'
              · rw [List.length_append, List.length_append, vl]; rfl
              · by_cases hi : i < rows.length
                · rw [List.getElem?_append_left hi] at hr'
                  obtain ⟨q1, h1, h2⟩ := hen.2 i r' hr'
                  have hq5 : H5 q1 = some (.tup (rowV r')) := z _ _ (base4 h2) fun y => by rw [y, hd] at h2; cases h2
                  exact ⟨q1, by rw [List.getElem?_append_left (by omega)]; exact h1, by rw [upd_ne (pk hq5)]; exact hq5⟩
                · rw [List.getElem?_append_right (by omega)] at hr'
                  have hi0 : i - rows.length = 0 := by
                    by_cases y : i - rows.length = 0
                    · exact y
                    · rw [List.getElem?_eq_none (by simp; omega)] at hr'; cases hr'
                  rw [hi0] at hr'
                  cases (show r = r' from Option.some.inj hr')
                  exact ⟨p, by rw [List.getElem?_append_right (by omega), show i - vs.length = 0 by omega]; rfl, by rw [upd_ne (pk hp5)]; exact hp5⟩
              · rw [upd_ne (Ne.symm td), ← vl]
                exact hd'
end
end K34
set_option Elab.async false
set_option linter.all false
set_option maxRecDepth 100000
set_option maxHeartbeats 4000000
namespace K34
open PySem PySem.Spec PyProof.Rows L2 Tw Tk Lx
section
variable {P : Program} {w : World} {K : PySem.W.Frag} {mg : Str → Option Value} {base : Heap} {CT CI CL CM CX_ aL aN aF aP aT aK aNN aFN : Addr} {es : Array DictEntry} {en : Nat}
/-! ### Lexicon.__init__ -/
def txt (ls : List (List Nat)) : List V := ls.map fun l => V.str (S l)
def FrA (a : Addr) (H H' : Hp) : Prop := ∀ b o, H b = some o → b ≠ a → H' b = some o
def spLex (K : PySem.W.Frag) (C CL CM : Addr) : Sp := fun vs H Q E => ∃ (a q dx : Addr) (ls : List (List Nat)), vs = [.ref a, .ref q] ∧ H a = some (.ins C dx []) ∧ (SqL K H q (txt ls) ∨ SqT K H q (txt ls)) ∧ q ≠ a ∧ (∀ l ∈ ls, l.length ≤ 5000) ∧ ls.length ≤ 100000 ∧
  (ls.length ≤ 40 → ∀ rows, Built [] ls rows → ∀ H' t d, FrA a H H' → LexAt C H' a t d rows → H t = none → H d = none → Q .non H') ∧
  (ls.length ≤ 40 → ∀ z k, Fails [] 1 ls z k → ∀ e H', FrA a H H' → H' e = some (.xd (fsIL [tx z, .int (k : Nat)])) → E (.ref CL) (some e) H') ∧
  (40 < ls.length → ∀ e H', FrA a H H' → H' e = some (.xd (fsTM [tx "lines", .int (ls.length : Nat)])) → E (.ref CM) (some e) H')
theorem Rd.fr {a b : Addr} {H H' : Hp} {o : HO} (h : Rd H b o) (f : FrA a H H') (n : b ≠ a) : Rd H' b o := by
  rcases h with h | ⟨x, h⟩
  · exact .inl (f _ _ h n)
  · exact .inr ⟨x, f _ _ h n⟩
theorem SqL.fr {a b : Addr} {H H' : Hp} {xs : List V} (h : SqL K H b xs) (f : FrA a H H') (n : b ≠ a) : SqL K H' b xs := by
  rcases h with h | h
  · exact .inl (Rd.fr h f n)
  · exact .inr h
theorem SqT.fr {a b : Addr} {H H' : Hp} {xs : List V} (h : SqT K H b xs) (f : FrA a H H') (n : b ≠ a) : SqT K H' b xs := by
  rcases h with h | h
  · exact .inl (Rd.fr h f n)
  · exact .inr h
theorem FrA.trans {a : Addr} {H H1 H2 : Hp} (f : FrA a H H1) (g : FrA a H1 H2) : FrA a H H2 := fun b o h n => g _ _ (f _ _ h n) n
def kv0 : List (List Key × V) := LX.mergeT [] [(kyK (sN "noun") (sN "near") (sN "thing"), .int (-1)), (kyK (sN "noun") (sN "far") (sN "jukk"), .int (-1))]
theorem num0 : Num kv0 [] := by
  refine ⟨fun k lang s v => ?_, by decide⟩
  rw [show valV kv0 (kyK k lang s) = valV (putK (putK [] (kyK (sN "noun") (sN "near") (sN "thing")) (.int (-1))) (kyK (sN "noun") (sN "far") (sN "jukk")) (.int (-1))) (kyK k lang s) from rfl, valV_put, valV_put, valV_nil]
  constructor
  · intro h
    by_cases e2 : kyK k lang s = kyK (sN "noun") (sN "far") (sN "jukk")
    · rw [if_pos e2] at h
      obtain ⟨a1, a2, a3⟩ := kyK_inj e2
      exact .inl ⟨⟨a1, .inr ⟨a2, a3⟩⟩, (Option.some.inj h).symm⟩
    · rw [if_neg e2] at h
      by_cases e1 : kyK k lang s = kyK (sN "noun") (sN "near") (sN "thing")
      · rw [if_pos e1] at h
        obtain ⟨a1, a2, a3⟩ := kyK_inj e1
        exact .inl ⟨⟨a1, .inl ⟨a2, a3⟩⟩, (Option.some.inj h).symm⟩
      · rw [if_neg e1] at h; cases h
  · rintro (⟨⟨rfl, h⟩, rfl⟩ | ⟨i, r, h, _⟩)
    · rcases h with ⟨rfl, rfl⟩ | ⟨rfl, rfl⟩
      · by_cases e2 : kyK (sN "noun") (sN "near") (sN "thing") = kyK (sN "noun") (sN "far") (sN "jukk")
        · rw [if_pos e2]
        · rw [if_neg e2, if_pos rfl]
      · rw [if_pos rfl]
    · simp at h
abbrev s_Lexicon___init__ : Stmt := ExS.methS (topS 21) 0
theorem sc_Lexicon___init__ : FnScope ["self", "lines", "at", "line"] ["self", "lines"] (defScope s_Lexicon___init__) := ⟨rfl, rfl, rfl, by decide +kernel, rfl, by decide +kernel, by decide +kernel⟩
theorem ok_lexinit {C : Addr} {f : Addr} {fd : FuncData} (F : Fun K "__init__" "Lexicon.__init__" s_Lexicon___init__ f fd) (T : Tx mg) (LC : LexC K C) (M_TooMany : ExS.MkX P w K mg base 1 "TooMany" CM okTM fsTM) (m_put : LX.MetX P w K mg base 3 C "put" (spPut C CL)) : FnOk P w K mg base (L2.CX P w) 4 f fd ["self", "lines"] (spLex K C CL CM) := by
  refine F.okX sc_Lexicon___init__ (fun vs H Q E h => ?_) (fun cdv A outer s H vs Q E hr h => ?_)
  · obtain ⟨a, q, dx, ls, rfl, _⟩ := h
    rfl
  · obtain ⟨a, q, dx, ls, rfl, ha, hq, hqa, hll, hln, k1, k2, k3⟩ := h
    refine ⟨_, (pss_cons (ps_if (pt_cmpR op_gt (pe_callB call_len_seq rfl T.n_len (by decide +kernel) (pa_cons (pv 1) pa_nil)) (C8.pe_gc rfl T.c_MOST_LINES) (nomark _))
      (pss_one (ps_raise rfl (takes_of (E := E) rfl rfl rfl rfl) (ExS.pmk_X M_TooMany hr (by omega) rfl (pa_cons pe_str (pa_cons (pe_callB call_len_seq rfl T.n_len (by decide +kernel) (pa_cons (pv 1) pa_nil)) pa_nil)))))
      pss_nil)
    (pss_cons (ps_fld (pv 0) (pe_lst pa_nil) rfl)
    (pss_cons (ps_fld (pv 0) (LX.pe_dispT (hu_of hr) (pps_cons (pe_tup (pa_cons pe_str (pa_cons pe_str (pa_cons pe_str pa_nil)))) (pe_un un_neg pe_int) (pps_cons (pe_tup (pa_cons pe_str (pa_cons pe_str (pa_cons pe_str pa_nil)))) (pe_un un_neg pe_int) pps_nil)) rfl rfl (fun z => by cases z) (by decide)) rfl)
    (pss_one (ps_for (passes_of rfl) rfl (LX.pi_enumA rfl T.n_enumerate (pa_cons (pv 1) (pa_cons pe_int pa_nil))) (pg_tup rfl (pgs_cons (pg_name (i := 2) sc_Lexicon___init__.nd rfl (.inl rfl)) (pgs_cons (pg_name (i := 3) sc_Lexicon___init__.nd rfl (.inl rfl)) pgs_nil)))
      (pss_one (ps_expr (LX.pe_mX m_put hr (by omega) (pv 0) (pa_cons (pv 3) (pa_cons (pv 2) pa_nil)) (LX.passE (takes_of (E := E) rfl rfl rfl rfl)))))))))), ?_⟩
    have lt : (txt ls).length = ls.length := List.length_map _
    refine ⟨_, rfl, q, txt ls, rfl, hq, _, _, rfl, rfl, _, rfl, ?_⟩
    rw [lt]
    refine ite2 (fun e => ?_) (fun e => ?_)
    · have e' := of_decide_eq_true e
      refine ⟨_, rfl, q, txt ls, rfl, hq, ExS.mkx (by show 2 ≤ 1000; decide) ⟨_, _, rfl, by decide +kernel⟩ fun d2 H2 s2 nd hd2 => k3 (by omega) d2 H2 (fun b o h _ => s2 b o h) ?_⟩
      rw [← lt]
      exact hd2
    · have h40 : ls.length ≤ 40 := by
        have e' : ¬ ((ls.length : Nat) : Int) > 40 := fun z => e (decide_eq_true z)
        omega
      -- told, numbers
      refine ⟨by show 0 ≤ sizeLine; decide, fun t nt => ⟨_, rfl, a, C, dx, [], rfl, same_upd nt _ _ ha, LC.cl, LC.n_told, by decide, ?_⟩⟩
      have nta : t ≠ a := fun z => by rw [z, ha] at nt; cases nt
      obtain ⟨Ha, hHa⟩ : ∃ Ha, Ha = upd (upd H t (HO.lst [])) a (HO.ins C dx (putF (PySem.Str.ofString "told") (V.ref t) [])) := ⟨_, rfl⟩
      rw [← hHa]
      have fa : FrA a H Ha := fun b o h n => by rw [hHa, upd_ne n]; exact same_upd nt _ _ h
      refine fun d nd => ?_
      have nda : d ≠ a := fun z => by rw [z, hHa, upd_same] at nd; cases nd
      have ndt : d ≠ t := fun z => by rw [z, hHa, upd_ne nta, upd_same] at nd; cases nd
      have ndH : H d = none := by
        cases e0 : H d with
        | none => rfl
        | some o => rw [fa _ _ e0 nda] at nd; cases nd
      refine ⟨by show 3 ≤ sizeLine; decide, fun b1 n1 => ⟨1, rfl, by show 3 ≤ sizeLine; decide, fun b2 n2 => ⟨1, rfl, ?_⟩⟩⟩
      obtain ⟨Hb, hHb⟩ : ∃ Hb, Hb = upd (upd (upd Ha d (HO.dT [])) b1 (.tup [.str (PySem.Str.ofString "noun"), .str (PySem.Str.ofString "near"), .str (PySem.Str.ofString "thing")])) b2 (.tup [.str (PySem.Str.ofString "noun"), .str (PySem.Str.ofString "far"), .str (PySem.Str.ofString "jukk")]) := ⟨_, rfl⟩
      have sb1 : Same (upd (upd Ha d (HO.dT [])) b1 (.tup [.str (PySem.Str.ofString "noun"), .str (PySem.Str.ofString "near"), .str (PySem.Str.ofString "thing")])) Hb := by rw [hHb]; exact same_upd n2
      have sb0 : Same (upd Ha d (HO.dT [])) Hb := (same_upd n1).trans sb1
      have sba : Same Ha Hb := (same_upd nd).trans sb0
      rw [← hHb]
      refine ⟨sb0 _ _ upd_same, [(kyK (sN "noun") (sN "near") (sN "thing"), b1, .int (-1)), (kyK (sN "noun") (sN "far") (sN "jukk"), b2, .int (-1))], rfl, ?_, by show 2 ≤ 15; decide, ?_⟩
      · intro kb hkb
        rcases List.mem_cons.mp hkb with rfl | hkb
        · exact sb1 _ _ upd_same
        · rcases List.mem_cons.mp hkb with rfl | hkb
          · rw [hHb]; exact upd_same
          · cases hkb
      have hta : Ha t = some (.lst []) := by rw [hHa, upd_ne nta, upd_same]
      have haa : Ha a = some (.ins C dx (putF (PySem.Str.ofString "told") (V.ref t) [])) := by rw [hHa, upd_same]
      refine ⟨_, rfl, a, C, dx, _, rfl, by rw [upd_ne (Ne.symm nda)]; exact sba _ _ haa, LC.cl, LC.n_numbers, by show 1 < 1000; decide, ?_⟩
      refine ⟨_, rfl, q, 1, rfl, ⟨by decide, by decide⟩, ?_⟩
      generalize hG : upd (upd Hb d _) a (HO.ins C dx (putF (PySem.Str.ofString "numbers") (V.ref d) _)) = Hc
      have hHc : Hc = upd (upd Hb d (HO.dT kv0)) a (HO.ins C dx [("told", .ref t), ("numbers", .ref d)]) := hG.symm
      have fc : FrA a H Hc := fun b o h n => by
        rw [hHc, upd_ne n, upd_ne (fun z => by rw [z, ndH] at h; cases h)]
        exact sba _ _ (fa _ _ h n)
      have hc : LexAt C Hc a t d [] := by
        refine ⟨dx, [], kv0, by rw [hHc, upd_same], ?_, ⟨rfl, fun i r h => by simp at h⟩, by rw [hHc, upd_ne nda, upd_same], num0⟩
        rw [hHc, upd_ne (Ne.symm nta |>.symm), upd_ne (Ne.symm ndt)]
        exact sba _ _ hta
      have kfr : ∀ {H1 H2 : Hp}, FrA a H H1 → Fr2 t d H1 H2 → FrA a H H2 := fun f g b o h n => g _ _ (f _ _ h n) (fun z => by rw [z, nt] at h; cases h) (fun z => by rw [z, ndH] at h; cases h)
      have split : ∀ i (x : V), (txt ls)[i]? = some x → ∃ l, x = .str (S l) ∧ ls[i]? = some l := fun i x h => by
        unfold txt at h
        rw [List.getElem?_map] at h
        cases e : ls[i]? with
        | none => rw [e] at h; cases h
        | some l => rw [e] at h; exact ⟨l, (Option.some.inj h).symm, e⟩
      have turn : ∀ (i : Nat) (l : List Nat) (rows : List Ent) (H' : Hp) (T : Addr), ls[i]? = some l → Built [] (ls.take i) rows → LexAt C H' a t d rows → FrA a H H' → H' T = none → ∀ {o : HO},
          (∃ dx' fs, (upd H' T o) a = some (.ins C dx' fs) ∧ List.lookup ("put" : Str) fs = none) ∧ few (1 + (i : Nat)) ∧ l.length ≤ 5000 ∧ LexAt C (upd H' T o) a t d rows ∧ rows.length ≤ 1000 ∧ ∀ H2 : Hp,
            (∀ rows', Add rows l (some rows') "" → Fr2 t d (upd H' T o) H2 → LexAt C H2 a t d rows' → Built [] (ls.take (i + 1)) rows' ∧ LexAt C H2 a t d rows' ∧ FrA a H H2) ∧
            (∀ z, Add rows l none z → ∀ e, Same (upd H' T o) H2 → H2 e = some (.xd (fsIL [tx z, .int (1 + (i : Nat))])) → E (.ref CL) (some e) H2) := by
        intro i l rows H' T hl bt lx f nT o
        have il : i < ls.length := (List.getElem?_eq_some_iff.mp hl).1
        have rl : rows.length = i := by
          rw [bt.len, List.length_take]
          simp
          omega
        have lx2 : LexAt C (upd H' T o) a t d rows := lx.same (same_upd nT)
        have f2 : FrA a H (upd H' T o) := fun b o' h n => same_upd nT _ _ (f _ _ h n)
        refine ⟨?_, ?_, hll l (List.mem_of_getElem? hl), lx2, by omega, fun H2 => ⟨fun rows' ad fr lx' => ⟨?_, lx', kfr f2 fr⟩, fun z ad e s2 he => ?_⟩⟩
        · obtain ⟨dx', vs', kvs', e1, _⟩ := lx2
          exact ⟨dx', _, e1, by rfl⟩
        · unfold few
          omega
        · rw [List.take_add_one, hl]
          exact bt.snoc ad
        · have fl : Fails [] 1 ls z (1 + i) := by
            have h := Built.fails (k := 1) (post := l :: ls.drop (i + 1)) bt (Fails.here ad)
            rw [List.length_take, Nat.min_eq_left (Nat.le_of_lt il)] at h
            have e3 : ls.take i ++ l :: ls.drop (i + 1) = ls := by
              have := List.getElem_cons_drop il
              rw [(List.getElem?_eq_some_iff.mp hl).2] at this
              rw [this, List.take_append_drop]
            rw [e3] at h
            exact h
          refine k2 h40 z (1 + i) fl e H2 (fun b o' h n => s2 _ _ (f2 _ _ h n)) ?_
          rw [he]
          rfl
      rcases hq with hq | hq
      · refine .inl ⟨txt ls, SqL.fr hq fc hqa, ?_⟩
        refine for_enumLC (xs := txt ls) (fun i σ' H' => ∃ y2 y3 rows, σ' = [some (.ref a), some (.ref q), y2, y3] ∧ Built [] (ls.take i) rows ∧ LexAt C H' a t d rows ∧ FrA a H H') ⟨_, _, [], rfl, .nil, hc, fc⟩ ?_ ?_ ?_
        · rintro i σ' H' _ ⟨y2, y3, rows, _, _, _, f⟩
          exact SqL.fr hq f hqa
        · rintro i x T σ' H' hx ⟨y2, y3, rows, rfl, bt, lx, f⟩ nT
          obtain ⟨l, rfl, hl⟩ := split i x hx
          obtain ⟨h1, h2, h3, h4, h5, h6⟩ := turn i l rows H' T hl bt lx f nT
          obtain ⟨dx', fs, h1, h1'⟩ := h1
          exact ⟨T, _, rfl, .inl (.inl upd_same), rfl, _, _, rfl, _, _, rfl, rfl, _, rfl, a, dx', fs, rfl, h1, h1', _, rfl, _, rfl, a, t, d, l, _, rows, rfl, h2, h3, h4, h5, fun rows' ad H2 fr lx' => ⟨_, _, rows', rfl, (h6 H2).1 rows' ad fr lx'⟩, fun z ad e H2 s2 he => (h6 H2).2 z ad e s2 he⟩
        · rintro σ' H' ⟨y2, y3, rows, rfl, bt, lx, f⟩
          rw [lt, List.take_length] at bt
          exact k1 h40 rows bt H' t d f lx nt ndH
      · refine .inr ⟨txt ls, SqT.fr hq fc hqa, ?_⟩
        refine LX.for_enumTC (xs := txt ls) (fun i σ' H' => ∃ y2 y3 rows, σ' = [some (.ref a), some (.ref q), y2, y3] ∧ Built [] (ls.take i) rows ∧ LexAt C H' a t d rows ∧ FrA a H H') ⟨_, _, [], rfl, .nil, hc, fc⟩ ?_ ?_ ?_
        · rintro i σ' H' _ ⟨y2, y3, rows, _, _, _, f⟩
          exact SqT.fr hq f hqa
        · rintro i x T σ' H' hx ⟨y2, y3, rows, rfl, bt, lx, f⟩ nT
          obtain ⟨l, rfl, hl⟩ := split i x hx
          obtain ⟨h1, h2, h3, h4, h5, h6⟩ := turn i l rows H' T hl bt lx f nT
          obtain ⟨dx', fs, h1, h1'⟩ := h1
          exact ⟨T, _, rfl, .inl (.inl upd_same), rfl, _, _, rfl, _, _, rfl, rfl, _, rfl, a, dx', fs, rfl, h1, h1', _, rfl, _, rfl, a, t, d, l, _, rows, rfl, h2, h3, h4, h5, fun rows' ad H2 fr lx' => ⟨_, _, rows', rfl, (h6 H2).1 rows' ad fr lx'⟩, fun z ad e H2 s2 he => (h6 H2).2 z ad e s2 he⟩
        · rintro σ' H' ⟨y2, y3, rows, rfl, bt, lx, f⟩
          rw [lt, List.take_length] at bt
          exact k1 h40 rows bt H' t d f lx nt ndH
end
end K34
set_option Elab.async false
set_option linter.all false
set_option maxRecDepth 100000
set_option maxHeartbeats 4000000
namespace K34
open PySem PySem.Spec PyProof.Rows L2 Tw Tk Lx
section
variable {P : Program} {w : World} {K : PySem.W.Frag} {mg : Str → Option Value} {base : Heap} {CT CI CL CM CX_ aL aN aF aP aT aK aNN aFN : Addr} {es : Array DictEntry} {en : Nat}
/-! ### Lexicon.size, .entry, .number, .lines -/
def spSize (C : Addr) : Sp := fun vs H Q _ => ∃ (a t d : Addr) (rows : List Ent), vs = [.ref a] ∧ LexAt C H a t d rows ∧ rows.length ≤ 1000 ∧ Q (.int (rows.length : Nat)) H
abbrev s_Lexicon_size : Stmt := ExS.methS (topS 21) 2
theorem sc_Lexicon_size : FnScope ["self"] ["self"] (defScope s_Lexicon_size) := ⟨rfl, rfl, rfl, by decide +kernel, rfl, by decide +kernel, by decide +kernel⟩
theorem ok_size {C : Addr} {f : Addr} {fd : FuncData} (F : Fun K "size" "Lexicon.size" s_Lexicon_size f fd) (T : Tx mg) (LC : LexC K C) : FnOk P w K mg base CX0 1 f fd ["self"] (spSize C) := by
  refine F.ok sc_Lexicon_size (fun vs H Q E h => ?_) (fun cdv A outer s H vs Q E hr h => ?_)
  · obtain ⟨a, t, d, rows, rfl, _⟩ := h
    rfl
  · obtain ⟨a, t, d, rows, rfl, hlex, hrl, q⟩ := h
    refine ⟨_, (pss_one (ps_ret (pe_callB call_len_seq rfl T.n_len (by decide +kernel) (pa_cons (LX.pe_fldK (K := K) rfl (pv 0) (by rfl)) pa_nil)))), ?_⟩
    obtain ⟨dx, vs, kvs, ha, ht, hen, hd, hnum⟩ := hlex
    refine ⟨_, rfl, a, C, dx, _, _, rfl, ha, LC.cl, LC.n_told, fs_told, t, _, rfl, .inl (.inl (.inl ht)), ?_⟩
    rw [hen.1]
    exact q
def spEnt (aT C : Addr) : Sp := fun vs H Q _ => ∃ (a t d : Addr) (rows : List Ent) (n : Int), vs = [.ref a, .int n] ∧ LexAt C H a t d rows ∧ ((n = -1 ∧ Q (.ref aT) H) ∨ ∃ (i : Nat) (r : Ent), n = (i : Nat) ∧ rows[i]? = some r ∧ ∀ q, H q = some (.tup (rowV r)) → Q (.ref q) H)
abbrev s_Lexicon_entry : Stmt := ExS.methS (topS 21) 3
theorem sc_Lexicon_entry : FnScope ["self", "number"] ["self", "number"] (defScope s_Lexicon_entry) := ⟨rfl, rfl, rfl, by decide +kernel, rfl, by decide +kernel, by decide +kernel⟩
theorem ok_ent {C : Addr} {f : Addr} {fd : FuncData} (F : Fun K "entry" "Lexicon.entry" s_Lexicon_entry f fd) (T : Tx mg) (CN : Cn K w mg aL aN aF aP aT aK aNN aFN es en) (LC : LexC K C) : FnOk P w K mg base CX0 1 f fd ["self", "number"] (spEnt aT C) := by
  refine F.ok sc_Lexicon_entry (fun vs H Q E h => ?_) (fun cdv A outer s H vs Q E hr h => ?_)
  · obtain ⟨a, t, d, rows, n, rfl, _⟩ := h
    rfl
  · obtain ⟨a, t, d, rows, n, rfl, hlex, q⟩ := h
    refine ⟨_, (pss_one (ps_ret (pe_ifExp (pt_cmpR op_eq (pv 1) (pe_un un_neg pe_int) (nomark _)) (C8.pe_gc rfl CN.c_THING) (pe_ix ix_list (LX.pe_fldK (K := K) rfl (pv 0) (by rfl)) (pv 1) (fun _ _ => rfl))))), ?_⟩
    obtain ⟨dx, vs, kvs, ha, ht, hen, hd, hnum⟩ := hlex
    refine ⟨_, rfl, 1, rfl, rfl, _, rfl, ?_⟩
    show (if decide (V.int n = V.int (-1)) = true then _ else _ : Prop)
    rcases q with ⟨rfl, q⟩ | ⟨i, r, rfl, hi, q⟩
    · rw [decide_eq_true rfl]
      exact iteT q
    · rw [show decide (V.int (i : Nat) = V.int (-1)) = false from decide_eq_false fun z => by injection z with z; omega]
      obtain ⟨p, hp, hq⟩ := hen.2 i r hi
      exact iteF ⟨_, rfl, a, C, dx, _, _, rfl, ha, LC.cl, LC.n_told, fs_told, _, rfl, t, _, (i : Nat), .ref p, rfl, rfl, .inl (.inl ht), atI_ofNat (by omega) (by simpa using hp), q p hq⟩
def NumIs (rows : List Ent) (k lang s : List Nat) (v : V) : Prop := (v = .non ∧ ¬ Taken rows k lang s) ∨ (v = .int (-1) ∧ ThingKey k lang s) ∨ ∃ (i : Nat) (r : Ent), v = .int (i : Nat) ∧ rows[i]? = some r ∧ HasKey r k lang s
def spNumb (C : Addr) : Sp := fun vs H Q _ => ∃ (a t d : Addr) (rows : List Ent) (k lang s : List Nat), vs = [.ref a, .str (S k), .str (S lang), .str (S s)] ∧ LexAt C H a t d rows ∧ lang ∈ ["near", "far"].map sN ∧ ∀ H' v, Same H H' → NumIs rows k lang s v → Q v H'
abbrev s_Lexicon_number : Stmt := ExS.methS (topS 21) 4
theorem sc_Lexicon_number : FnScope ["self", "kind", "language", "stem"] ["self", "kind", "language", "stem"] (defScope s_Lexicon_number) := ⟨rfl, rfl, rfl, by decide +kernel, rfl, by decide +kernel, by decide +kernel⟩
theorem ok_numb {C : Addr} {f : Addr} {fd : FuncData} (F : Fun K "number" "Lexicon.number" s_Lexicon_number f fd) (T : Tx mg) (LC : LexC K C) (C_check_language : ExS.CalX P w K mg base 3 "check_language" (spChk CL)) : FnOk P w K mg base CX0 4 f fd ["self", "kind", "language", "stem"] (spNumb C) := by
  refine F.ok sc_Lexicon_number (fun vs H Q E h => ?_) (fun cdv A outer s H vs Q E hr h => ?_)
  · obtain ⟨a, t, d, rows, k, lang, s, rfl, _⟩ := h
    rfl
  · obtain ⟨a, t, d, rows, k, lang, s, rfl, hlex, hlang, q⟩ := h
    refine ⟨_, (pss_cons (ps_expr (ExS.pe_cX C_check_language hr (by omega) rfl ExS.pass0S (pa_cons (pv 2) pa_nil)))
    (pss_one (ps_ret (pe_dget1 (hu_of hr) (LX.pe_fldK (K := K) rfl (pv 0) (by rfl)) (pe_tup (pa_cons (pv 1) (pa_cons (pv 2) (pa_cons (pv 3) pa_nil)))) ⟨rfl, rfl, rfl, rfl⟩)))), ?_⟩
    obtain ⟨dx, vs, kvs, ha, ht, hen, hd, hnum⟩ := hlex
    have hin : inV (.str (S lang)) langs = true := by
      unfold langs
      rw [inV_tx, decide_eq_true hlang]
    refine ⟨_, rfl, _, rfl, rfl, fun _ => ?_, fun z => by rw [hin] at z; cases z⟩
    refine ⟨_, rfl, a, C, dx, _, _, rfl, ha, LC.cl, LC.n_numbers, fs_numbers, d, rfl, .inr ⟨kvs, .inl hd⟩, _, rfl, _, rfl, _, rfl, by show 3 ≤ sizeLine; decide, fun p np => ?_⟩
    have hne : p ≠ d := fun z => by rw [z, hd] at np; cases np
    refine ⟨_, DGet.t (k := kyK k lang s) (by rw [upd_ne (Ne.symm hne)]; exact hd) upd_same, q _ _ (same_upd np) ?_⟩
    cases e : valV kvs (kyK k lang s) with
    | none =>
      refine .inl ⟨rfl, fun z => ?_⟩
      have := hnum.has.mpr z
      rw [e] at this
      cases this
    | some v =>
      rcases (hnum.val k lang s v).mp e with ⟨h, h'⟩ | ⟨i, r, h1, h2, h3⟩
      · exact .inr (.inl ⟨h', h⟩)
      · exact .inr (.inr ⟨i, r, h2, h1, h3⟩)
def Lines (H : Hp) (p : Addr) (rows : List Ent) : Prop := H p = some (.lst (txt (rows.map lineOf)))
def Short (rows : List Ent) : Prop := ∀ r ∈ rows, r.k.length ≤ 5000 ∧ r.n.length ≤ 5000 ∧ r.f.length ≤ 5000 ∧ ∀ p, r.p = some p → p.length ≤ 5000
theorem Ents.get {H : Hp} {vs : List V} {rows : List Ent} {i : Nat} {x : V} (e : Ents H vs rows) (h : vs[i]? = some x) : ∃ (r : Ent) (p : Addr), x = .ref p ∧ rows[i]? = some r ∧ H p = some (.tup (rowV r)) := by
  have il : i < rows.length := by
    have := (List.getElem?_eq_some_iff.mp h).1
    have := e.1
    omega
  have hr : rows[i]? = some rows[i] := List.getElem?_eq_getElem il
  obtain ⟨p, h1, h2⟩ := e.2 i _ hr
  rw [h] at h1
  exact ⟨_, p, Option.some.inj h1, hr, h2⟩
def notN (v : V) : Bool := !decide (v = .non)
def wordsOf (r : Ent) : List (List Nat) := r.k :: r.n :: r.f :: r.p.toList
theorem row_words (r : Ent) : (rowV r).filter notN = txt (wordsOf r) := by
  obtain ⟨k, n, f, p⟩ := r
  cases p <;> rfl
theorem words_sum {r : Ent} (h : r.k.length ≤ 5000 ∧ r.n.length ≤ 5000 ∧ r.f.length ≤ 5000 ∧ ∀ p, r.p = some p → p.length ≤ 5000) : (((wordsOf r).map S).map (·.length)).sum + ((wordsOf r).map S).length * 1 ≤ 16777216 := by
  obtain ⟨k, n, f, p⟩ := r
  obtain ⟨h1, h2, h3, h4⟩ := h
  dsimp only at h1 h2 h3 h4
  cases p with
  | none =>
    show (S k).length + ((S n).length + ((S f).length + 0)) + 3 * 1 ≤ _
    rw [S_len, S_len, S_len]
    omega
  | some p =>
    have := h4 p rfl
    show (S k).length + ((S n).length + ((S f).length + ((S p).length + 0))) + 4 * 1 ≤ _
    rw [S_len, S_len, S_len, S_len]
    omega
theorem Short.get {rows : List Ent} (h : Short rows) {i : Nat} {r : Ent} (e : rows[i]? = some r) : r.k.length ≤ 5000 ∧ r.n.length ≤ 5000 ∧ r.f.length ≤ 5000 ∧ ∀ p, r.p = some p → p.length ≤ 5000 := h r (List.mem_of_getElem? e)
def tParts (K : PySem.W.Frag) (i j : Nat) : TE := LX.tJoinK K (tC (V.str (PySem.Str.ofString " "))) (tLc (iTup K (tVar i)) (gName j) (tTest (tOp (fun x y H Q => y = V.non ∧ Q (V.bl !decide (x = V.non)) H) (tVar j) (tC V.non))) (tVar j) [j])
theorem parts_walk {i j : Nat} {σ : L2.St} {H : Hp} {Q : VK} {p : Addr} {r : Ent} (hij : i ≠ j) (hj : j < σ.length) (hi : σ[i]? = some (some (.ref p))) (hp : H p = some (.tup (rowV r))) (hr : r.k.length ≤ 5000 ∧ r.n.length ≤ 5000 ∧ r.f.length ≤ 5000 ∧ ∀ p, r.p = some p → p.length ≤ 5000)
    (q : ∀ H', Same H H' → Q (.str (S (lineOf r))) H') : tParts K i j σ H Q := by
  refine ⟨⟨_, rfl⟩, _, hi, p, rfl, ⟨rowV r, .inl (.inl hp)⟩, fun D nD => ?_⟩
  refine lc_tup (xs := rowV r) (fun i H' => Same H H' ∧ H' D = some (.lst (((rowV r).take i).filter notN))) ⟨same_upd nD, upd_same⟩ ?_ ?_ ?_
  · rintro i H' _ ⟨z, _⟩
    exact .inl (.inl (z _ _ hp))
  · rintro m x H' hx ⟨z, hD⟩
    have hset : ((wipe σ [j]).set j (some x))[j]? = some (some x) := by
      show ((σ.set j none).set j (some x))[j]? = _
      rw [List.getElem?_set_self (by rw [List.length_set]; exact hj)]
    refine ⟨by show ((σ.set j none).set j (some x)).set j none = σ.set j none; rw [List.set_set, List.set_set], _, hset, rfl, _, rfl, ?_⟩
    by_cases e : x = .non
    · rw [decide_eq_true e]
      refine ⟨z, ?_⟩
      rw [hD, List.take_add_one, hx, List.filter_append]
      subst e
      show _ = some (HO.lst (_ ++ [])) 
      rw [List.append_nil]
    · rw [decide_eq_false e]
      refine ⟨_, hset, _, hD, ?_, same_mut z nD, ?_⟩
      · have h1 := List.length_filter_le notN ((rowV r).take m)
        have h2 : ((rowV r).take m).length ≤ 4 := by rw [List.length_take]; exact Nat.min_le_right _ _
        exact Nat.lt_of_le_of_lt (Nat.le_trans h1 h2) (by decide)
      · rw [upd_same, List.take_add_one, hx, List.filter_append]
        have : notN x = true := by unfold notN; rw [decide_eq_false e]; rfl
        show _ = some (HO.lst (_ ++ [x].filter notN))
        rw [List.filter_cons, this]
        rfl
  · rintro H' ⟨z, hD⟩
    rw [List.take_length, row_words] at hD
    refine ⟨_, D, (wordsOf r).map S, rfl, rfl, .inl (.inl (.inl (by rw [hD, List.map_map]; rfl))), words_sum hr, ?_⟩
    have e := join_parts 32 (wordsOf r)
    rw [show (PySem.Str.ofString " ") = (⟨#[32]⟩ : Str) from rfl, e]
    exact q H' z
def spLinesM (C : Addr) : Sp := fun vs H Q _ => ∃ (a t d : Addr) (rows : List Ent), vs = [.ref a] ∧ LexAt C H a t d rows ∧ rows.length ≤ 1000 ∧ Short rows ∧ ∀ H' p, Same H H' → H p = none → Lines H' p rows → Q (.ref p) H'
abbrev s_Lexicon_lines : Stmt := ExS.methS (topS 21) 5
theorem sc_Lexicon_lines : FnScope ["self", "part", "entry"] ["self"] (defScope s_Lexicon_lines) := ⟨rfl, rfl, rfl, by decide +kernel, rfl, by decide +kernel, by decide +kernel⟩
theorem ok_lines {C : Addr} {f : Addr} {fd : FuncData} (F : Fun K "lines" "Lexicon.lines" s_Lexicon_lines f fd) (T : Tx mg) (LC : LexC K C) : FnOk P w K mg base CX0 1 f fd ["self"] (spLinesM C) := by
  refine F.ok sc_Lexicon_lines (fun vs H Q E h => ?_) (fun cdv A outer s H vs Q E hr h => ?_)
  · obtain ⟨a, t, d, rows, rfl, _⟩ := h
    rfl
  · obtain ⟨a, t, d, rows, rfl, hlex, hrl, hsh, q⟩ := h
    refine ⟨_, (pss_one (ps_ret (pe_lc (own := [("entry", 2)]) rfl sc_Lexicon_lines.nd (pi_list (LX.pe_fldK (K := K) rfl (pv 0) (by rfl))) (blkOk_by (own := [("entry", 2)]) (N := ["self", "part", "entry"]) (sc := defScope s_Lexicon_lines) (by decide +kernel)) (fun _ _ _ _ _ => (pg_name (i := 2) sc_Lexicon_lines.nd rfl (.inl rfl))) (fun _ _ _ _ _ => pts_nil) (fun _ _ _ _ _ => (LX.pe_joinK (K := K) rfl pe_str (pe_lc (own := [("part", 1)]) rfl sc_Lexicon_lines.nd (LX.pi_tupK (K := K) rfl (pv 2)) (LX.blkOk_in (own := [("part", 1)]) (N := ["self", "part", "entry"]) (by decide +kernel)) (fun _ _ _ _ _ => (pg_name (i := 1) sc_Lexicon_lines.nd rfl (.inl rfl))) (fun _ _ _ _ _ => (pts_one (pt_cmpR op_notN (pv 1) pe_non (nomark _)))) (fun _ _ _ _ _ => (pv 1)))))))), ?_⟩
    obtain ⟨dx, vs, kvs, ha, ht, hen, hd, hnum⟩ := hlex
    refine ⟨_, rfl, a, C, dx, _, _, rfl, ha, LC.cl, LC.n_told, fs_told, t, rfl, ⟨_, .inl (.inl ht)⟩, fun D nD => ?_⟩
    refine lc_list (xs := vs) (fun i H' => Same H H' ∧ H' D = some (.lst (txt ((rows.take i).map lineOf)))) ⟨same_upd nD, upd_same⟩ ?_ ?_ ?_
    · rintro i H' _ ⟨z, _⟩
      exact .inl (.inl (z _ _ ht))
    · rintro i x H' hx ⟨z, hD⟩
      obtain ⟨r, p, rfl, hr, hp⟩ := hen.get hx
      refine ⟨rfl, parts_walk (i := 2) (j := 1) (r := r) (by decide) (by show 1 < 3; decide) rfl (z _ _ hp) (hsh.get hr) fun H2 s2 => ⟨_, s2 _ _ hD, ?_, same_mut (z.trans s2) nD, ?_⟩⟩
      · refine szl ?_
        unfold txt
        rw [List.length_map, List.length_map, List.length_take]
        omega
      · rw [upd_same, List.take_add_one, hr]
        unfold txt
        rw [List.map_append, List.map_append]
        rfl
    · rintro H' ⟨z, hD⟩
      rw [hen.1, List.take_length] at hD
      exact q _ _ z nD hD
end
end K34
set_option Elab.async false
set_option linter.all false
set_option maxRecDepth 100000
set_option maxHeartbeats 4000000
namespace K34
open PySem PySem.Spec PyProof.Rows L2 Tw Tk Lx
section
variable {P : Program} {w : World} {K : PySem.W.Frag} {mg : Str → Option Value} {base : Heap} {CT CI CL CM CX_ aL aN aF aP aT aK aNN aFN : Addr} {es : Array DictEntry} {en : Nat}
/-! ### the deck -/
/-- a list of numbers, none below nought -/
def Deck (H : Hp) (p : Addr) : Prop := ∃ ds : List Int, H p = some (.lst (ds.map V.int)) ∧ (∀ d ∈ ds, 0 ≤ d) ∧ ds.length ≤ 20000
def spDeck (K : PySem.W.Frag) : Sp := fun vs H Q _ => ∃ (a : Addr) (ns : List Int) (c e : Nat), vs = [.ref a, .int (c : Nat), .int (e : Nat)] ∧ SqL K H a (ns.map V.int) ∧ ns.length ≤ 63 ∧ c ≤ 1000 ∧ e ≤ 1000 ∧ c * e ≤ 20000 ∧
  ∀ H' p, Same H H' → H p = none → Deck H' p → Q (.ref p) H'
abbrev s__law_deck : Stmt := topS 23
theorem sc__law_deck : FnScope ["script", "cells", "each", "deck", "seed", "k", "cell", "rest", "at"] ["script", "cells", "each"] (defScope s__law_deck) := ⟨rfl, rfl, rfl, by decide +kernel, rfl, by decide +kernel, by decide +kernel⟩
theorem ok_deck {f : Addr} {fd : FuncData} (F : Fun K "_law_deck" "_law_deck" s__law_deck f fd) (T : Tx mg) : FnOk P w K mg base CX0 1 f fd ["script", "cells", "each"] (spDeck K) := by
  refine F.ok sc__law_deck (fun vs H Q E h => ?_) (fun cdv A outer s H vs Q E hr h => ?_)
  · obtain ⟨a, ns, c, e, rfl, _⟩ := h
    rfl
  · obtain ⟨a, ns, c, e, rfl, hS, hl, hc, he, hce, q⟩ := h
    refine ⟨_, (pss_cons (ps_set (i := 3) sc__law_deck.nd rfl (.inl rfl) (pe_lst pa_nil))
    (pss_cons (ps_set (i := 4) sc__law_deck.nd rfl (.inl rfl) (pe_op op_add pe_int (pe_callB call_len_seq rfl T.n_len (by decide +kernel) (pa_cons (pv 0) pa_nil))))
    (pss_cons (ps_for PassesOwn.never rfl (pi_range1 rfl T.n_range (pa_cons (pv 1) pa_nil)) (pg_name (i := 5) sc__law_deck.nd rfl (.inl rfl))
      (pss_cons (ps_set (i := 6) sc__law_deck.nd rfl (.inl rfl) pe_int)
      (C8.pss_cut (ps_if (pt_cmpR op_lt (pv 5) (pe_callB call_len_seq rfl T.n_len (by decide +kernel) (pa_cons (pv 0) pa_nil)) (nomark _))
        (pss_one (ps_set (i := 6) sc__law_deck.nd rfl (.inl rfl) (pe_ix ix_list (pv 0) (pv 5) (fun _ _ => rfl))))
        pss_nil)
      (pss_cons (ps_set (i := 7) sc__law_deck.nd rfl (.inl rfl) (pe_callB call_abs rfl T.n_abs (by decide +kernel) (pa_cons (pv 6) pa_nil)))
      (pss_one (ps_if (pt_cmpR op_ge (pv 7) (pe_op op_pow pe_int pe_int) (nomark _))
        (pss_one (ps_for PassesOwn.never rfl (pi_range1 rfl T.n_range (pa_cons (pv 2) pa_nil)) (pg_name (i := 8) sc__law_deck.nd rfl (.inl rfl))
          (pss_cons (ps_expr (pe_bm PySem.F.plainAttrs_list PySem.F.slot_list_append PySem.F.type_list_append mt_append (pv 3) (pa_cons (pe_op op_mod (pe_callTy call_int1 rfl T.n_int (by decide +kernel) (pa_cons (pv 7) pa_nil)) pe_int) pa_nil)))
          (pss_one (ps_set (i := 7) sc__law_deck.nd rfl (.inl rfl) (pe_op op_fdiv (pv 7) pe_int))))))
        (pss_cons (ps_set (i := 4) sc__law_deck.nd rfl (.inl rfl) (pe_op op_mod (pe_callTy call_int1 rfl T.n_int (by decide +kernel) (pa_cons (pe_op op_add (pe_op op_add (pe_op op_add (pe_op op_mul (pv 4) pe_int) (pe_op op_mul pe_int (pv 7))) (pe_callTy call_int1 rfl T.n_int (by decide +kernel) (pa_cons (pe_cmpR op_lt (pv 6) pe_int (nomark _)) pa_nil))) (pv 5)) pa_nil)) pe_int))
        (pss_one (ps_for PassesOwn.never rfl (pi_range1 rfl T.n_range (pa_cons (pv 2) pa_nil)) (pg_name (i := 8) sc__law_deck.nd rfl (.inl rfl))
          (pss_cons (ps_set (i := 4) sc__law_deck.nd rfl (.inl rfl) (pe_op op_mod (pe_callTy call_int1 rfl T.n_int (by decide +kernel) (pa_cons (pe_op op_add (pe_op op_add (pe_op op_mul (pv 4) pe_int) (pv 8)) pe_int) pa_nil)) pe_int))
          (pss_one (ps_expr (pe_bm PySem.F.plainAttrs_list PySem.F.slot_list_append PySem.F.type_list_append mt_append (pv 3) (pa_cons (pe_op op_mod (pe_callTy call_int1 rfl T.n_int (by decide +kernel) (pa_cons (pe_op op_fdiv (pv 4) pe_int) pa_nil)) pe_int) pa_nil))))))))))))))
    (pss_cons (ps_expr (pe_bm0 PySem.F.plainAttrs_list PySem.F.slot_list_reverse PySem.F.type_list_reverse mt_reverse (pv 3)))
    (pss_one (ps_ret (pv 3))))))), ?_⟩
    refine ⟨Nat.zero_le _, fun p np => ?_⟩
    have s0 : Same H (upd H p (.lst [])) := same_upd np
    refine ⟨.ref a, rfl, a, _, rfl, .inl (s0.seq hS), _, _, rfl, rfl, ?_⟩
    refine ⟨_, rfl, _, rfl, by omega, by omega, ?_⟩
    rw [show ((c : Int).toNat) = c by omega]
    refine for_range (lo := 0) (n := c) (fun i σ H' => ∃ (seed : Int) (y5 y6 y7 y8 : Option V) (ds : List Int), σ = [some (.ref a), some (.int (c : Nat)), some (.int (e : Nat)), some (.ref p), some (.int seed), y5, y6, y7, y8] ∧ Same H H' ∧ H' p = some (.lst (ds.map V.int)) ∧ (∀ d ∈ ds, 0 ≤ d) ∧ ds.length = i * e) ?_ ?_ ?_
    · exact ⟨_, _, _, _, _, [], rfl, s0, upd_same, fun d h => (by simp at h), by simp⟩
    · rintro i σ H1 hi ⟨seed, y5, y6, y7, y8, ds, rfl, s1, h1, nn, hd⟩
      have hie : i * e + e ≤ 20000 := by
        have := Nat.mul_le_mul_right e (show i + 1 ≤ c by omega)
        rw [Nat.add_mul, Nat.one_mul] at this
        omega
      -- if k < len(script): cell = script[k]
      refine ⟨fun σ' H' => H' = H1 ∧ ∃ cell : Int, σ' = [some (.ref a), some (.int (c : Nat)), some (.int (e : Nat)), some (.ref p), some (.int seed), some (.int (0 + (i : Nat))), some (.int cell), y7, y8], ?_, ?_⟩
      · refine ⟨_, rfl, _, rfl, a, _, rfl, .inl (s1.seq hS), _, _, rfl, rfl, _, rfl, ite2 (fun e1 => ?_) (fun e1 => ⟨rfl, 0, rfl⟩)⟩
        have e2 := of_decide_eq_true e1
        rw [List.length_map] at e2
        have hk : i < ns.length := by omega
        refine ⟨_, rfl, _, rfl, a, _, _, .int ns[i], rfl, rfl, s1.seq hS, atI_ofNat (by omega) (by rw [show (0 + (i : Int)).toNat = i by omega, List.getElem?_map, List.getElem?_eq_getElem hk]; rfl), rfl, _, rfl⟩
      · rintro σ' H' ⟨rfl, cell, rfl⟩
        -- rest = abs(cell); if rest >= 10 ** 30
        refine ⟨_, rfl, cell, rfl, ?_⟩
        refine ⟨_, rfl, _, _, rfl, rfl, ⟨by decide, by decide, by decide⟩, _, _, rfl, rfl, _, rfl, ite2 (fun _ => ?_) (fun _ => ?_)⟩
        · refine ⟨_, rfl, _, rfl, by omega, by omega, ?_⟩
          rw [show ((e : Int).toNat) = e by omega]
          refine for_range (lo := 0) (n := e) (fun j σ H2 => ∃ (rest : Int) (y8 : Option V) (ds' : List Int), σ = [some (.ref a), some (.int (c : Nat)), some (.int (e : Nat)), some (.ref p), some (.int seed), some (.int (0 + (i : Nat))), some (.int cell), some (.int rest), y8] ∧ Same H H2 ∧ H2 p = some (.lst (ds'.map V.int)) ∧ (∀ d ∈ ds', 0 ≤ d) ∧ ds'.length = i * e + j) ?_ ?_ ?_
          · exact ⟨_, _, ds, rfl, s1, h1, nn, hd⟩
          · rintro j σ H2 hj ⟨rest, y8, ds', rfl, s2, h2, nn2, hd2⟩
            refine ⟨_, rfl, .inl ⟨rfl, _, .inl (.inl h2)⟩, _, rfl, .inl ⟨rest, rfl, ?_⟩⟩
            refine ⟨_, _, rfl, rfl, (by show (0 : Int) < 1000003; decide), p, _, _, rfl, rfl, h2, szl (by rw [List.length_map]; omega), ?_⟩
            refine ⟨_, rfl, _, _, rfl, rfl, ⟨by decide, by decide⟩, ?_⟩
            refine ⟨_, _, ds' ++ [rest % 1000003], rfl, same_mut s2 np, by rw [upd_same, List.map_append]; rfl, fun d hdd => ?_, by rw [List.length_append]; simp; omega⟩
            rcases List.mem_append.mp hdd with z | z
            · exact nn2 d z
            · rw [List.mem_singleton.mp z]; exact Int.emod_nonneg _ (by decide)
          · rintro σ H2 ⟨rest, y8, ds', rfl, s2, h2, nn2, hd2⟩
            exact ⟨_, _, _, _, _, ds', rfl, s2, h2, nn2, by rw [hd2, Nat.add_mul, Nat.one_mul]⟩
        · refine ⟨_, rfl, _, _, rfl, rfl, .inr ⟨by decide, by decide⟩, _, rfl, _, _, rfl, rfl, .inl ⟨by decide, by decide⟩, _, _, rfl, rfl, _, rfl, _, _, rfl, rfl, .inr ⟨_, rfl, ?_⟩⟩
          refine ⟨_, _, rfl, rfl, _, rfl, _, _, rfl, rfl, .inl ⟨_, rfl, ?_⟩⟩
          refine ⟨_, _, rfl, rfl, (by show (0 : Int) < 2147483647; decide), ?_⟩
          refine ⟨_, rfl, _, rfl, by omega, by omega, ?_⟩
          rw [show ((e : Int).toNat) = e by omega]
          refine for_range (lo := 0) (n := e) (fun j σ H2 => ∃ (seed rest : Int) (y8 : Option V) (ds' : List Int), σ = [some (.ref a), some (.int (c : Nat)), some (.int (e : Nat)), some (.ref p), some (.int seed), some (.int (0 + (i : Nat))), some (.int cell), some (.int rest), y8] ∧ Same H H2 ∧ H2 p = some (.lst (ds'.map V.int)) ∧ (∀ d ∈ ds', 0 ≤ d) ∧ ds'.length = i * e + j) ?_ ?_ ?_
          · exact ⟨_, _, _, ds, rfl, s1, h1, nn, hd⟩
          · rintro j σ H2 hj ⟨seed2, rest, y8, ds', rfl, s2, h2, nn2, hd2⟩
            refine ⟨_, rfl, _, _, rfl, rfl, .inr ⟨by decide, by decide⟩, _, rfl, _, _, rfl, rfl, _, _, rfl, rfl, .inl ⟨_, rfl, ?_⟩⟩
            refine ⟨_, _, rfl, rfl, (by show (0 : Int) < 2147483629; decide), ?_⟩
            refine ⟨_, rfl, .inl ⟨rfl, _, .inl (.inl h2)⟩, _, rfl, _, _, rfl, rfl, ⟨by decide, by decide⟩, .inl ⟨_, rfl, ?_⟩⟩
            refine ⟨_, _, rfl, rfl, (by show (0 : Int) < 1000003; decide), p, _, _, rfl, rfl, h2, szl (by rw [List.length_map]; omega), ?_⟩
            refine ⟨_, _, _, ds' ++ [_], rfl, same_mut s2 np, by rw [upd_same, List.map_append]; rfl, fun d hdd => ?_, by rw [List.length_append]; simp; omega⟩
            rcases List.mem_append.mp hdd with z | z
            · exact nn2 d z
            · rw [List.mem_singleton.mp z]; exact Int.emod_nonneg _ (by decide)
          · rintro σ H2 ⟨seed2, rest, y8, ds', rfl, s2, h2, nn2, hd2⟩
            exact ⟨_, _, _, _, _, ds', rfl, s2, h2, nn2, by rw [hd2, Nat.add_mul, Nat.one_mul]⟩
    · rintro σ H1 ⟨seed, y5, y6, y7, y8, ds, rfl, s1, h1, nn, hd⟩
      -- deck.reverse(); return deck
      refine ⟨_, rfl, .inl ⟨rfl, _, .inl (.inl h1)⟩, p, _, rfl, rfl, h1, ?_⟩
      refine ⟨_, rfl, q _ p (same_mut s1 np) np ⟨ds.reverse, by rw [upd_same, List.map_reverse], fun d hdd => nn d (List.mem_reverse.mp hdd), by rw [List.length_reverse, hd]; exact hce⟩⟩
def spTake : Sp := fun vs H Q _ => ∃ (p : Addr) (m : Int), vs = [.ref p, .int m] ∧ 0 < m ∧ Deck H p ∧ ∀ H' r, Kp p H H' → Deck H' p → 0 ≤ r → r < m → Q (.int r) H'
abbrev s__law_take : Stmt := topS 24
theorem sc__law_take : FnScope ["deck", "many"] ["deck", "many"] (defScope s__law_take) := ⟨rfl, rfl, rfl, by decide +kernel, rfl, by decide +kernel, by decide +kernel⟩
theorem ok_take {f : Addr} {fd : FuncData} (F : Fun K "_law_take" "_law_take" s__law_take f fd) (T : Tx mg) : FnOk P w K mg base CX0 1 f fd ["deck", "many"] spTake := by
  refine F.ok sc__law_take (fun vs H Q E h => ?_) (fun cdv A outer s H vs Q E hr h => ?_)
  · obtain ⟨p, m, rfl, _⟩ := h
    rfl
  · obtain ⟨p, m, rfl, hm, ⟨ds, hp, nn, hl⟩, q⟩ := h
    refine ⟨_, (pss_cons (ps_if (pt_cmpR op_eq (pe_callB call_len_seq rfl T.n_len (by decide +kernel) (pa_cons (pv 0) pa_nil)) pe_int (nomark _))
      (pss_one (ps_ret pe_int))
      pss_nil)
    (pss_one (ps_ret (pe_op op_mod (pe_callTy call_int1 rfl T.n_int (by decide +kernel) (pa_cons (pe_bm0 PySem.F.plainAttrs_list PySem.F.slot_list_pop PySem.F.type_list_pop mt_pop (pv 0)) pa_nil)) (pv 1))))), ?_⟩
    refine ⟨_, rfl, p, _, rfl, .inl (.inl (.inl hp)), rfl, _, rfl, ite2 (fun e => ?_) (fun e => ?_)⟩
    · exact q H 0 (Kp.refl p H) ⟨ds, hp, nn, hl⟩ (Int.le_refl 0) hm
    · have hne : ds ≠ [] := fun z => e (by subst z; exact decide_eq_true rfl)
      have e0 : ds = ds.dropLast ++ [ds.getLast hne] := (List.dropLast_concat_getLast hne).symm
      have hg : (ds.map V.int)[(ds.map V.int).length - 1]? = some (.int (ds.getLast hne)) := by
        rw [List.length_map, List.getElem?_map, ← List.getLast?_eq_getElem?, List.getLast?_eq_getLast hne]
        rfl
      refine ⟨_, rfl, .inl ⟨rfl, _, .inl (.inl hp)⟩, p, _, _, rfl, rfl, hp, hg, .inl ⟨_, rfl, _, rfl, ?_⟩⟩
      refine ⟨_, _, rfl, rfl, hm, ?_⟩
      refine q _ _ Kp.upd ⟨ds.dropLast, by rw [upd_same, List.map_dropLast], fun d hd => nn d (by rw [e0]; exact List.mem_append_left _ hd), by rw [List.length_dropLast]; omega⟩ (Int.emod_nonneg _ (by omega)) (Int.emod_lt_of_pos _ hm)
/-! ### _law_plain -/
def spPlain (K : PySem.W.Frag) (n : Nat) : Sp := fun vs H Q _ => ∃ (v : V) (d : PyData), vs = [v] ∧ Dp K H v d ∧ okD n d ∧ ∀ H' v', Same H H' → NewD K H H' v' (plainD d) → Q v' H'
/-- what its own calls are promised: data a level less deep -/
def spPlainLt (K : PySem.W.Frag) (n : Nat) : Sp := fun vs H Q E => ∃ m, n = m + 1 ∧ spPlain K m vs H Q E
abbrev s__law_plain : Stmt := topS 25
theorem sc__law_plain : FnScope ["value", "item"] ["value"] (defScope s__law_plain) := ⟨rfl, rfl, rfl, by decide +kernel, rfl, by decide +kernel, by decide +kernel⟩
theorem ok_plain {n : Nat} {f : Addr} {fd : FuncData} (F : Fun K "_law_plain" "_law_plain" s__law_plain f fd) (T : Tx mg) (C__law_plain : C8.Cal P w K mg base n "_law_plain" (spPlainLt K n) []) : FnOk P w K mg base CX0 (n + 1) f fd ["value"] (spPlain K n) := by
  refine F.ok sc__law_plain (fun vs H Q E h => ?_) (fun cdv A outer s H vs Q E hr h => ?_)
  · obtain ⟨v, d, rfl, _⟩ := h
    rfl
  · obtain ⟨v, d, rfl, hd, ho, q⟩ := h
    refine ⟨_, (pss_cons (ps_if (pt_val (pe_callB call_isiT rfl T.n_isinstance (by decide +kernel) (pa_cons (pv 0) (pa_cons (pe_tup (pa_cons (pe_bltn (v := .ty "tuple") (u := .type "tuple") rfl T.n_tuple (by decide +kernel) rfl) (pa_cons (pe_bltn (v := .ty "list") (u := .type "list") rfl T.n_list (by decide +kernel) rfl) pa_nil))) pa_nil))))
      (pss_one (ps_ret (pe_op op_cat (pe_lst (pa_cons (pe_callB call_isi rfl T.n_isinstance (by decide +kernel) (pa_cons (pv 0) (pa_cons (pe_bltn (v := .ty "list") (u := .type "list") rfl T.n_list (by decide +kernel) rfl) pa_nil))) pa_nil)) (pe_lc (own := [("item", 1)]) rfl sc__law_plain.nd (pi_seq (pv 0)) (blkOk_by (own := [("item", 1)]) (N := ["value", "item"]) (sc := defScope s__law_plain) (by decide +kernel)) (fun _ _ _ _ _ => (pg_name (i := 1) sc__law_plain.nd rfl (.inl rfl))) (fun _ _ _ _ _ => pts_nil) (fun _ _ _ _ _ => (C8.pe_c C__law_plain hr (by omega) rfl (pa_cons (pv 1) pa_nil)))))))
      pss_nil)
    (pss_cons (ps_if (PW.pt (pw_or (pt_cmpR op_isN (pv 0) pe_non (nomark _)) (pw_or1 (pt_val (pe_callB call_isi rfl T.n_isinstance (by decide +kernel) (pa_cons (pv 0) (pa_cons (pe_bltn (v := .ty "bool") (u := .type "bool") rfl T.n_bool (by decide +kernel) rfl) pa_nil)))))))
      (pss_one (ps_ret (pe_ix ix_list (pe_lst (pa_cons pe_str (pa_cons pe_str (pa_cons pe_str pa_nil)))) (pe_op op_add (pe_callTy call_int1 rfl T.n_int (by decide +kernel) (pa_cons (pe_cmpR op_notN (pv 0) pe_non (nomark _)) pa_nil)) (pe_callTy call_int1 rfl T.n_int (by decide +kernel) (pa_cons (pe_cmpR op_isB (pv 0) pe_bl (nomark _)) pa_nil))) (fun _ _ => rfl))))
      pss_nil)
    (pss_cons (ps_if (pt_val (pe_callB call_isiT rfl T.n_isinstance (by decide +kernel) (pa_cons (pv 0) (pa_cons (pe_tup (pa_cons (pe_bltn (v := .ty "int") (u := .type "int") rfl T.n_int (by decide +kernel) rfl) (pa_cons (pe_bltn (v := .ty "str") (u := .type "str") rfl T.n_str (by decide +kernel) rfl) pa_nil))) pa_nil))))
      (pss_one (ps_ret (pe_lst (pa_cons (pe_callB call_isi rfl T.n_isinstance (by decide +kernel) (pa_cons (pv 0) (pa_cons (pe_bltn (v := .ty "str") (u := .type "str") rfl T.n_str (by decide +kernel) rfl) pa_nil))) (pa_cons (pv 0) pa_nil)))))
      pss_nil)
    (pss_one (ps_ret pe_str))))), ?_⟩
    refine ⟨_, rfl, by show 2 ≤ sizeLine; decide, fun p np => ?_⟩
    have s0 : Same H (upd H p (.tup [.ty "tuple", .ty "list"])) := same_upd np
    cases d with
    | none =>
      cases hd
      refine ⟨.non, p, _, .type "NoneType", _, false, rfl, upd_same, .cons (.ty _) (.cons (.ty _) .nil), .base .non, kit2 (r1 := false) (r2 := false) (by decide +kernel) (by decide +kernel), _, rfl, iteF ?_⟩
      refine ⟨_, rfl, rfl, _, rfl, iteT ?_⟩
      refine ⟨by show 3 ≤ sizeLine; decide, fun l nl => ⟨_, rfl, rfl, .inr ⟨_, rfl, _, rfl, _, rfl, .inl rfl, .inr ⟨_, rfl, _, _, rfl, rfl, l, _, _, .str "None", rfl, rfl, .inl (.inl upd_same), rfl, ?_⟩⟩⟩⟩
      exact q _ _ (s0.trans (same_upd nl)) fun H2 _ => .str _
    | bool b =>
      cases hd
      refine ⟨.bl b, p, _, .type "bool", _, false, rfl, upd_same, .cons (.ty _) (.cons (.ty _) .nil), .base (.bl b), kit2 (r1 := false) (r2 := false) (by decide +kernel) (by decide +kernel), _, rfl, iteF ?_⟩
      refine ⟨_, rfl, rfl, _, rfl, iteF ⟨_, rfl, .bl b, _, .type "bool", _, true, rfl, .ty _, .base (.bl b), kit_ty (by decide +kernel), _, rfl, iteT ?_⟩⟩
      refine ⟨by show 3 ≤ sizeLine; decide, fun l nl => ⟨_, rfl, rfl, .inr ⟨_, rfl, _, rfl, _, rfl, .inr ⟨b, rfl⟩, .inr ⟨_, rfl, _, _, rfl, rfl, l, _, _, .str (if b = true then "True" else "False"), rfl, rfl, .inl (.inl upd_same), (by cases b <;> rfl), ?_⟩⟩⟩⟩
      refine q _ _ (s0.trans (same_upd nl)) fun H2 _ => ?_
      rw [plainD]
      exact .str _
    | int i =>
      cases hd
      refine ⟨.int i, p, _, .type "int", _, false, rfl, upd_same, .cons (.ty _) (.cons (.ty _) .nil), .base (.int i), kit2 (r1 := false) (r2 := false) (by decide +kernel) (by decide +kernel), _, rfl, iteF ?_⟩
      refine ⟨_, rfl, rfl, _, rfl, iteF ⟨_, rfl, .int i, _, .type "int", _, false, rfl, .ty _, .base (.int i), kit_ty (by decide +kernel), _, rfl, iteF ?_⟩⟩
      refine ⟨_, rfl, by show 2 ≤ sizeLine; decide, fun p2 np2 => ?_⟩
      refine ⟨.int i, p2, _, .type "int", _, true, rfl, upd_same, .cons (.ty _) (.cons (.ty _) .nil), .base (.int i), kit2 (r1 := true) (r2 := false) (by decide +kernel) (by decide +kernel), _, rfl, iteT ?_⟩
      refine ⟨_, rfl, .int i, _, .type "int", _, false, rfl, .ty _, .base (.int i), kit_ty (by decide +kernel), _, rfl, by show 2 ≤ sizeLine; decide, fun l nl => ?_⟩
      refine q _ _ ((s0.trans (same_upd np2)).trans (same_upd nl)) fun H2 k => ?_
      exact .lst (.inl (.inl (k l _ upd_same ((s0.trans (same_upd np2)).free nl)))) (.cons (.bl _) (.cons (.int i) .nil))
    | str x =>
      cases hd
      refine ⟨.str x, p, _, .type "str", _, false, rfl, upd_same, .cons (.ty _) (.cons (.ty _) .nil), .base (.str x), kit2 (r1 := false) (r2 := false) (by decide +kernel) (by decide +kernel), _, rfl, iteF ?_⟩
      refine ⟨_, rfl, rfl, _, rfl, iteF ⟨_, rfl, .str x, _, .type "str", _, false, rfl, .ty _, .base (.str x), kit_ty (by decide +kernel), _, rfl, iteF ?_⟩⟩
      refine ⟨_, rfl, by show 2 ≤ sizeLine; decide, fun p2 np2 => ?_⟩
      refine ⟨.str x, p2, _, .type "str", _, true, rfl, upd_same, .cons (.ty _) (.cons (.ty _) .nil), .base (.str x), kit2 (r1 := false) (r2 := true) (by decide +kernel) (by decide +kernel), _, rfl, iteT ?_⟩
      refine ⟨_, rfl, .str x, _, .type "str", _, true, rfl, .ty _, .base (.str x), kit_ty (by decide +kernel), _, rfl, by show 2 ≤ sizeLine; decide, fun l nl => ?_⟩
      refine q _ _ ((s0.trans (same_upd np2)).trans (same_upd nl)) fun H2 k => ?_
      exact .lst (.inl (.inl (k l _ upd_same ((s0.trans (same_upd np2)).free nl)))) (.cons (.bl _) (.cons (.str x) .nil))
    | dict kvs => cases hd
    | list ds =>
      cases hd with
      | @lst a xs _ h1 h2 =>
      have hlen := dpAll_len h2
      obtain ⟨m, rfl⟩ : ∃ m, n = m + 1 := by
        cases n with
        | zero => exact False.elim ho
        | succ m => exact ⟨m, rfl⟩
      obtain ⟨o1, o2⟩ := (show ds.length ≤ 50000 ∧ ∀ x ∈ ds, okD m x from ho)
      refine ⟨.ref a, p, _, .type "list", _, true, rfl, upd_same, .cons (.ty _) (.cons (.ty _) .nil), tyL (s0.seq h1), kit2 (r1 := false) (r2 := true) (by decide +kernel) (by decide +kernel), _, rfl, iteT ?_⟩
      refine ⟨_, rfl, .ref a, _, .type "list", _, true, rfl, .ty _, tyL (s0.seq h1), kit_ty (by decide +kernel), by show 1 ≤ sizeLine; decide, fun l nl => ?_⟩
      have s1 := s0.trans (same_upd (o := HO.lst [V.bl true]) nl)
      refine ⟨_, rfl, a, rfl, .inl ⟨⟨xs, s1.seq h1⟩, fun D nD => ?_⟩⟩
      have nlD : l ≠ D := ne_of_none upd_same nD
      have nD0 : H D = none := s1.free nD
      refine lc_list (xs := xs) (fun i H3 => ∃ vs : List V, H3 D = some (.lst vs) ∧ vs.length = i ∧ Same H H3 ∧ H3 l = some (.lst [.bl true]) ∧ NewAll K H D H3 vs (plainAll (ds.take i))) ?_ ?_ ?_ ?_
      · exact ⟨[], upd_same, rfl, s1.trans (same_upd nD), by rw [upd_ne nlD, upd_same], fun _ _ => .nil⟩
      · rintro i H3 _ ⟨vs, _, _, s3, _⟩
        exact s3.seq h1
      · rintro i x H3 hx ⟨vs, hD, hvl, s3, h3l, hn⟩
        obtain ⟨dx, hdx, hxx⟩ := dpAll_get h2 i x hx
        refine ⟨rfl, _, rfl, m, rfl, x, dx, rfl, dp_mono s3 _ _ hxx, o2 dx (List.mem_of_getElem? hdx), fun H4 v' s4 n4 => ?_⟩
        refine ⟨vs, s4 _ _ hD, szl (by have := (List.getElem?_eq_some_iff.mp hx).1; omega), vs ++ [v'], upd_same, by rw [List.length_append, hvl]; rfl, same_mut (s3.trans s4) nD0, by rw [upd_ne nlD]; exact s4 _ _ h3l, ?_⟩
        rw [List.take_add_one, hdx, plainAll_map, List.map_append, ← plainAll_map]
        exact hn.snoc s3 hD s4 n4
      · rintro H3 ⟨vs, hD, hvl, s3, h3l, hn⟩
        refine ⟨l, D, _, _, rfl, rfl, h3l, hD, szL (by show 1 + vs.length ≤ 100000; omega), fun r nr => ?_⟩
        refine q _ _ (s3.trans (same_upd nr)) fun H4 k => ?_
        rw [plainD]
        rw [show plainAll ds = plainAll (ds.take xs.length) by rw [List.take_of_length_le (by omega)]]
        refine .lst (.inl (.inl (k r _ upd_same (s3.free nr)))) (.cons (.bl _) (hn H4 fun b o e n0 nb => k b o (same_upd nr b o e) n0))
    | tuple ds =>
      cases hd with
      | @tup a xs _ h1 h2 =>
      have hlen := dpAll_len h2
      obtain ⟨m, rfl⟩ : ∃ m, n = m + 1 := by
        cases n with
        | zero => exact False.elim ho
        | succ m => exact ⟨m, rfl⟩
      obtain ⟨o1, o2⟩ := (show ds.length ≤ 50000 ∧ ∀ x ∈ ds, okD m x from ho)
      refine ⟨.ref a, p, _, .type "tuple", _, true, rfl, upd_same, .cons (.ty _) (.cons (.ty _) .nil), tyT (Same.tup s0 h1), kit2 (r1 := true) (r2 := false) (by decide +kernel) (by decide +kernel), _, rfl, iteT ?_⟩
      refine ⟨_, rfl, .ref a, _, .type "tuple", _, false, rfl, .ty _, tyT (Same.tup s0 h1), kit_ty (by decide +kernel), by show 1 ≤ sizeLine; decide, fun l nl => ?_⟩
      have s1 := s0.trans (same_upd (o := HO.lst [V.bl false]) nl)
      refine ⟨_, rfl, a, rfl, .inr ⟨⟨xs, Same.tup s1 h1⟩, fun D nD => ?_⟩⟩
      have nlD : l ≠ D := ne_of_none upd_same nD
      have nD0 : H D = none := s1.free nD
      refine lc_tup (xs := xs) (fun i H3 => ∃ vs : List V, H3 D = some (.lst vs) ∧ vs.length = i ∧ Same H H3 ∧ H3 l = some (.lst [.bl false]) ∧ NewAll K H D H3 vs (plainAll (ds.take i))) ?_ ?_ ?_ ?_
      · exact ⟨[], upd_same, rfl, s1.trans (same_upd nD), by rw [upd_ne nlD, upd_same], fun _ _ => .nil⟩
      · rintro i H3 _ ⟨vs, _, _, s3, _⟩
        exact Same.tup s3 h1
      · rintro i x H3 hx ⟨vs, hD, hvl, s3, h3l, hn⟩
        obtain ⟨dx, hdx, hxx⟩ := dpAll_get h2 i x hx
        refine ⟨rfl, _, rfl, m, rfl, x, dx, rfl, dp_mono s3 _ _ hxx, o2 dx (List.mem_of_getElem? hdx), fun H4 v' s4 n4 => ?_⟩
        refine ⟨vs, s4 _ _ hD, szl (by have := (List.getElem?_eq_some_iff.mp hx).1; omega), vs ++ [v'], upd_same, by rw [List.length_append, hvl]; rfl, same_mut (s3.trans s4) nD0, by rw [upd_ne nlD]; exact s4 _ _ h3l, ?_⟩
        rw [List.take_add_one, hdx, plainAll_map, List.map_append, ← plainAll_map]
        exact hn.snoc s3 hD s4 n4
      · rintro H3 ⟨vs, hD, hvl, s3, h3l, hn⟩
        refine ⟨l, D, _, _, rfl, rfl, h3l, hD, szL (by show 1 + vs.length ≤ 100000; omega), fun r nr => ?_⟩
        refine q _ _ (s3.trans (same_upd nr)) fun H4 k => ?_
        rw [plainD]
        rw [show plainAll ds = plainAll (ds.take xs.length) by rw [List.take_of_length_le (by omega)]]
        refine .lst (.inl (.inl (k r _ upd_same (s3.free nr)))) (.cons (.bl _) (hn H4 fun b o e n0 nb => k b o (same_upd nr b o e) n0))
theorem cal_plain {f : Addr} {fd : FuncData} (F : Fun K "_law_plain" "_law_plain" s__law_plain f fd) (T : Tx mg) (hm : mg "_law_plain" = some (.ref f)) (b : Binds K fd ["value"] []) : ∀ n, C8.Cal P w K mg base n "_law_plain" (spPlainLt K n) []
  | 0 => ⟨f, fd, ["value"], [], ⟨fun _ _ _ _ h => (by obtain ⟨m, e, _⟩ := h; omega), fun _ _ _ _ _ _ _ _ _ _ _ _ _ h => (by obtain ⟨m, e, _⟩ := h; omega)⟩, hm, F.kp, b, .nil⟩
  | n + 1 => ⟨f, fd, ["value"], [], (ok_plain F T (cal_plain F T hm b n)).imp (fun vs H Q E h => by obtain ⟨m, e, h⟩ := h; cases e; exact h), hm, F.kp, b, .nil⟩
/-! ### _law_spoil -/
/-- data without lists, at most n levels deep -/
def okF : Nat → PyData → Prop
  | _, .none => True
  | _, .bool _ => True
  | _, .int _ => True
  | _, .str _ => True
  | n + 1, .tuple xs => xs.length ≤ 50000 ∧ ∀ x ∈ xs, okF n x
  | _, _ => False
/-- without lists nothing changes; a list of what has no lists gets 77 -/
def spSpoil (K : PySem.W.Frag) (n : Nat) : Sp := fun vs H Q _ => ∃ v : V, vs = [v] ∧ ((∃ d, Dp K H v d ∧ okF n d ∧ ∀ H', Same H H' → Q .non H') ∨
  (∃ a xs ds m, n = m + 1 ∧ v = .ref a ∧ H a = some (.lst xs) ∧ DpAll K H xs ds ∧ (∀ d ∈ ds, okF m d) ∧ xs.length ≤ 50000 ∧ ∀ H', Kp a H H' → H' a = some (.lst (xs ++ [.int 77])) → Q .non H'))
def spSpoilLt (K : PySem.W.Frag) (n : Nat) : Sp := fun vs H Q E => ∃ m, n = m + 1 ∧ spSpoil K m vs H Q E
theorem tyF {H : Hp} {n : Nat} {v : V} {d : PyData} (hd : Dp K H v d) (ho : okF n d) : ∃ t : String, TyX K H v (.type t) ∧ kitB t "list" = some false := by
  cases d with
  | none => cases hd; exact ⟨_, .base .non, by decide +kernel⟩
  | bool b => cases hd; exact ⟨_, .base (.bl b), by decide +kernel⟩
  | int i => cases hd; exact ⟨_, .base (.int i), by decide +kernel⟩
  | str x => cases hd; exact ⟨_, .base (.str x), by decide +kernel⟩
  | dict kvs => cases hd
  | list ds => cases n <;> exact False.elim ho
  | tuple ds =>
    cases hd with
    | @tup a xs _ h1 h2 => exact ⟨_, tyT h1, by decide +kernel⟩
abbrev s__law_spoil : Stmt := topS 26
theorem sc__law_spoil : FnScope ["value", "item"] ["value"] (defScope s__law_spoil) := ⟨rfl, rfl, rfl, by decide +kernel, rfl, by decide +kernel, by decide +kernel⟩
theorem ok_spoil {n : Nat} {f : Addr} {fd : FuncData} (F : Fun K "_law_spoil" "_law_spoil" s__law_spoil f fd) (T : Tx mg) (C__law_spoil : C8.Cal P w K mg base n "_law_spoil" (spSpoilLt K n) []) : FnOk P w K mg base CX0 (n + 1) f fd ["value"] (spSpoil K n) := by
  refine F.ok sc__law_spoil (fun vs H Q E h => ?_) (fun cdv A outer s H vs Q E hr h => ?_)
  · obtain ⟨v, rfl, _⟩ := h
    rfl
  · obtain ⟨v, rfl, h⟩ := h
    refine ⟨_, (C8.pss_cut (ps_if (pt_val (pe_callB call_isiT rfl T.n_isinstance (by decide +kernel) (pa_cons (pv 0) (pa_cons (pe_tup (pa_cons (pe_bltn (v := .ty "list") (u := .type "list") rfl T.n_list (by decide +kernel) rfl) (pa_cons (pe_bltn (v := .ty "tuple") (u := .type "tuple") rfl T.n_tuple (by decide +kernel) rfl) pa_nil))) pa_nil))))
      (pss_one (ps_for PassesOwn.never rfl (pi_seq (pv 0)) (pg_name (i := 1) sc__law_spoil.nd rfl (.inl rfl))
        (pss_one (ps_expr (C8.pe_c C__law_spoil hr (by omega) rfl (pa_cons (pv 1) pa_nil))))))
      pss_nil)
    (pss_one (ps_if (pt_val (pe_callB call_isi rfl T.n_isinstance (by decide +kernel) (pa_cons (pv 0) (pa_cons (pe_bltn (v := .ty "list") (u := .type "list") rfl T.n_list (by decide +kernel) rfl) pa_nil))))
      (pss_one (ps_expr (pe_bm PySem.F.plainAttrs_list PySem.F.slot_list_append PySem.F.type_list_append mt_append (pv 0) (pa_cons pe_int pa_nil))))
      pss_nil))), ?_⟩
    rcases h with ⟨d, hd, ho, q⟩ | ⟨a, xs, ds, m, rfl, rfl, ha, hds, ho, hl, q⟩
    · -- nothing changes
      refine ⟨fun σ' H' => ∃ y : Option V, σ' = [some v, y] ∧ Same H H', ?_, ?_⟩
      · refine ⟨_, rfl, by show 2 ≤ sizeLine; decide, fun p np => ?_⟩
        have s0 : Same H (upd H p (.tup [.ty "list", .ty "tuple"])) := same_upd np
        cases d with
        | none =>
          cases hd
          exact ⟨.non, p, _, .type "NoneType", _, false, rfl, upd_same, .cons (.ty _) (.cons (.ty _) .nil), .base .non, kit2 (r1 := false) (r2 := false) (by decide +kernel) (by decide +kernel), _, rfl, iteF ⟨_, rfl, s0⟩⟩
        | bool b =>
          cases hd
          exact ⟨.bl b, p, _, .type "bool", _, false, rfl, upd_same, .cons (.ty _) (.cons (.ty _) .nil), .base (.bl b), kit2 (r1 := false) (r2 := false) (by decide +kernel) (by decide +kernel), _, rfl, iteF ⟨_, rfl, s0⟩⟩
        | int i =>
          cases hd
          exact ⟨.int i, p, _, .type "int", _, false, rfl, upd_same, .cons (.ty _) (.cons (.ty _) .nil), .base (.int i), kit2 (r1 := false) (r2 := false) (by decide +kernel) (by decide +kernel), _, rfl, iteF ⟨_, rfl, s0⟩⟩
        | str x =>
          cases hd
          exact ⟨.str x, p, _, .type "str", _, false, rfl, upd_same, .cons (.ty _) (.cons (.ty _) .nil), .base (.str x), kit2 (r1 := false) (r2 := false) (by decide +kernel) (by decide +kernel), _, rfl, iteF ⟨_, rfl, s0⟩⟩
        | dict kvs => cases hd
        | list ds => cases n <;> exact False.elim ho
        | tuple ds =>
          cases hd with
          | @tup a xs _ h1 h2 =>
          have hlen := dpAll_len h2
          obtain ⟨m, rfl⟩ : ∃ m, n = m + 1 := by
            cases n with
            | zero => exact False.elim ho
            | succ m => exact ⟨m, rfl⟩
          obtain ⟨o1, o2⟩ := (show ds.length ≤ 50000 ∧ ∀ x ∈ ds, okF m x from ho)
          refine ⟨.ref a, p, _, .type "tuple", _, true, rfl, upd_same, .cons (.ty _) (.cons (.ty _) .nil), tyT (Same.tup s0 h1), kit2 (r1 := false) (r2 := true) (by decide +kernel) (by decide +kernel), _, rfl, iteT ?_⟩
          refine ⟨_, rfl, a, rfl, .inr ⟨⟨xs, Same.tup s0 h1⟩, ?_⟩⟩
          refine for_tup (xs := xs) (fun i σ' H3 => ∃ y : Option V, σ' = [some (.ref a), y] ∧ Same H H3) ⟨_, rfl, s0⟩ ?_ ?_ ?_
          · rintro i σ' H3 _ ⟨_, _, s3⟩
            exact Same.tup s3 h1
          · rintro i x σ' H3 hx ⟨y, rfl, s3⟩
            obtain ⟨dx, hdx, hxx⟩ := dpAll_get h2 i x hx
            exact ⟨_, rfl, m, rfl, x, rfl, .inl ⟨dx, dp_mono s3 _ _ hxx, o2 dx (List.mem_of_getElem? hdx), fun H4 s4 => ⟨_, rfl, s3.trans s4⟩⟩⟩
          · rintro σ' H3 ⟨y, rfl, s3⟩
            exact ⟨_, rfl, s3⟩
      · rintro σ' H' ⟨y, rfl, sm⟩
        obtain ⟨t, ht, hk⟩ := tyF (dp_mono sm _ _ hd) ho
        exact ⟨_, rfl, v, _, _, _, false, rfl, .ty _, ht, kit_ty hk, _, rfl, iteF (q _ sm)⟩
    · refine ⟨fun σ' H' => ∃ y : Option V, σ' = [some (.ref a), y] ∧ Same H H', ?_, ?_⟩
      · refine ⟨_, rfl, by show 2 ≤ sizeLine; decide, fun p np => ?_⟩
        have s0 : Same H (upd H p (.tup [.ty "list", .ty "tuple"])) := same_upd np
        refine ⟨.ref a, p, _, .type "list", _, true, rfl, upd_same, .cons (.ty _) (.cons (.ty _) .nil), tyL (s0.seq (.inl (.inl ha))), kit2 (r1 := true) (r2 := false) (by decide +kernel) (by decide +kernel), _, rfl, iteT ?_⟩
        refine ⟨_, rfl, a, rfl, .inl ⟨⟨xs, s0.seq (.inl (.inl ha))⟩, ?_⟩⟩
        refine for_list (xs := xs) (fun i σ' H3 => ∃ y : Option V, σ' = [some (.ref a), y] ∧ Same H H3) ⟨_, rfl, s0⟩ ?_ ?_ ?_
        · rintro i σ' H3 _ ⟨_, _, s3⟩
          exact .inl (.inl (s3 _ _ ha))
        · rintro i x σ' H3 hx ⟨y, rfl, s3⟩
          obtain ⟨dx, hdx, hxx⟩ := dpAll_get hds i x hx
          exact ⟨_, rfl, m, rfl, x, rfl, .inl ⟨dx, dp_mono s3 _ _ hxx, ho dx (List.mem_of_getElem? hdx), fun H4 s4 => ⟨_, rfl, s3.trans s4⟩⟩⟩
        · rintro σ' H3 ⟨y, rfl, s3⟩
          exact ⟨_, rfl, s3⟩
      · rintro σ' H' ⟨y, rfl, sm⟩
        refine ⟨_, rfl, .ref a, _, .type "list", _, true, rfl, .ty _, tyL (.inl (.inl (sm _ _ ha))), kit_ty (by decide +kernel), _, rfl, iteT ?_⟩
        exact ⟨_, rfl, .inl ⟨rfl, _, .inl (.inl (sm _ _ ha))⟩, a, xs, _, rfl, rfl, sm _ _ ha, szl (by omega), q _ ((Kp.of sm).trans Kp.upd) upd_same⟩
theorem cal_spoil {f : Addr} {fd : FuncData} (F : Fun K "_law_spoil" "_law_spoil" s__law_spoil f fd) (T : Tx mg) (hm : mg "_law_spoil" = some (.ref f)) (b : Binds K fd ["value"] []) : ∀ n, C8.Cal P w K mg base n "_law_spoil" (spSpoilLt K n) []
  | 0 => ⟨f, fd, ["value"], [], ⟨fun _ _ _ _ h => (by obtain ⟨m, e, _⟩ := h; omega), fun _ _ _ _ _ _ _ _ _ _ _ _ _ h => (by obtain ⟨m, e, _⟩ := h; omega)⟩, hm, F.kp, b, .nil⟩
  | n + 1 => ⟨f, fd, ["value"], [], (ok_spoil F T (cal_spoil F T hm b n)).imp (fun vs H Q E h => by obtain ⟨m, e, h⟩ := h; cases e; exact h), hm, F.kp, b, .nil⟩
/-! ### the words of the law -/
def tPairTs : List (String × String) → TA
  | [] => tNil
  | p :: r => tCons (tTup (tCons (tC (tx p.1)) (tCons (tC (tx p.2)) tNil))) (tPairTs r)
/-- a list of pairs of words -/
def Prs (H : Hp) (vs : List V) (ps : List (String × String)) : Prop := vs.length = ps.length ∧ ∀ (i : Nat) (q : String × String), ps[i]? = some q → ∃ a, vs[i]? = some (.ref a) ∧ H a = some (.tup [tx q.1, tx q.2])
theorem Prs.same {H H' : Hp} {vs : List V} {ps : List (String × String)} (h : Prs H vs ps) (s : Same H H') : Prs H' vs ps := ⟨h.1, fun i q e => let ⟨a, h1, h2⟩ := h.2 i q e; ⟨a, h1, s _ _ h2⟩⟩
theorem pairTs_walk : ∀ (ps : List (String × String)) {σ : L2.St} {H : Hp} {Q : List V → Hp → Prop}, (∀ vs H', Same H H' → Prs H' vs ps → Q vs H') → tPairTs ps σ H Q
  | [], σ, H, Q, h => h [] H (fun _ _ z => z) ⟨rfl, fun i q e => by simp at e⟩
  | p :: r, σ, H, Q, h => by
    refine ⟨by show 2 ≤ sizeLine; decide, fun a na => ?_⟩
    refine pairTs_walk r fun vs H' s q => h _ _ ((same_upd na).trans s) ⟨by rw [List.length_cons, List.length_cons, q.1], fun i x e => ?_⟩
    cases i with
    | zero =>
      cases (show p = x from Option.some.inj e)
      exact ⟨a, rfl, s _ _ upd_same⟩
    | succ i =>
      obtain ⟨b, h1, h2⟩ := q.2 i x e
      exact ⟨b, h1, h2⟩
def PoolAt (H : Hp) (l : Addr) (ps : List (String × String)) : Prop := ∃ vs, H l = some (.lst vs) ∧ Prs H vs ps
theorem PoolAt.same {H H' : Hp} {l : Addr} {ps : List (String × String)} (h : PoolAt H l ps) (s : Same H H') : PoolAt H' l ps := let ⟨vs, a, b⟩ := h; ⟨vs, s _ _ a, b.same s⟩
theorem lst_walk (ps : List (String × String)) (hps : ps.length ≤ 10) {σ : L2.St} {H : Hp} {Q : VK} (h : ∀ l H', Same H H' → PoolAt H' l ps → Q (.ref l) H') : tLst (tPairTs ps) σ H Q := by
  refine pairTs_walk ps fun vs H' s q => ⟨by have := q.1; show vs.length ≤ sizeLine; exact szL (by omega), fun l nl => h l _ (s.trans (same_upd nl)) ⟨vs, upd_same, q.same (same_upd nl)⟩⟩
theorem seq_lst (ps : List (String × String)) (hps : ps.length ≤ 10) (i : Nat) (s2 : TS) (D : Ends) (σ : L2.St) (H : Hp) (h : ∀ l H', Same H H' → PoolAt H' l ps → s2 D (σ.set i (some (.ref l))) H') : tSeq (tAsg (tLst (tPairTs ps)) (gName i)) s2 D σ H := by
  have := lst_walk ps hps (σ := σ) (H := H) (Q := fun v H1 => s2 D (σ.set i (some v)) H1) h
  exact this
theorem prs_lst (ps : List (String × String)) (hps : ps.length ≤ 10) (x : V) (r : List (TE × TE)) (σ : L2.St) (H : Hp) (Q : List (V × V) → Hp → Prop) (h : ∀ l H', Same H H' → PoolAt H' l ps → tPairs r σ H' fun qs H3 => Q ((x, .ref l) :: qs) H3) : tPairs ((tC x, tLst (tPairTs ps)) :: r) σ H Q := by
  have := lst_walk ps hps (σ := σ) (H := H) (Q := fun v H1 => tPairs r σ H1 fun qs H3 => Q ((x, v) :: qs) H3) h
  exact this
def poolK (l1 l2 l3 l4 : Addr) : List (Key × V) := mergeK [] [(Sum.inr (PySem.Str.ofString "noun"), .ref l1), (Sum.inr (PySem.Str.ofString "adj"), .ref l2), (Sum.inr (PySem.Str.ofString "verb"), .ref l3), (Sum.inr (PySem.Str.ofString "name"), .ref l4)]
def spPools : Sp := fun vs H Q _ => vs = [] ∧ ∀ H' d l1 l2 l3 l4, Same H H' → H' d = some (.dK (poolK l1 l2 l3 l4)) → PoolAt H' l1 nounS → PoolAt H' l2 adjS → PoolAt H' l3 verbS → PoolAt H' l4 nameS → Q (.ref d) H'
abbrev s__law_pools : Stmt := topS 27
theorem sc__law_pools : FnScope ["nouns", "adjs", "verbs"] [] (defScope s__law_pools) := ⟨rfl, rfl, rfl, by decide +kernel, rfl, by decide +kernel, by decide +kernel⟩
theorem ok_pools {f : Addr} {fd : FuncData} (F : Fun K "_law_pools" "_law_pools" s__law_pools f fd) (T : Tx mg) : FnOk P w K mg base CX0 1 f fd [] spPools := by
  refine F.ok sc__law_pools (fun vs H Q E h => ?_) (fun cdv A outer s H vs Q E hr h => ?_)
  · obtain ⟨rfl, _⟩ := h
    rfl
  · obtain ⟨rfl, q⟩ := h
    refine ⟨_, (pss_cons (ps_set (i := 0) sc__law_pools.nd rfl (.inl rfl) (pe_lst (pa_cons (pe_tup (pa_cons pe_str (pa_cons pe_str pa_nil))) (pa_cons (pe_tup (pa_cons pe_str (pa_cons pe_str pa_nil))) (pa_cons (pe_tup (pa_cons pe_str (pa_cons pe_str pa_nil))) (pa_cons (pe_tup (pa_cons pe_str (pa_cons pe_str pa_nil))) (pa_cons (pe_tup (pa_cons pe_str (pa_cons pe_str pa_nil))) (pa_cons (pe_tup (pa_cons pe_str (pa_cons pe_str pa_nil))) pa_nil))))))))
    (pss_cons (ps_set (i := 1) sc__law_pools.nd rfl (.inl rfl) (pe_lst (pa_cons (pe_tup (pa_cons pe_str (pa_cons pe_str pa_nil))) (pa_cons (pe_tup (pa_cons pe_str (pa_cons pe_str pa_nil))) (pa_cons (pe_tup (pa_cons pe_str (pa_cons pe_str pa_nil))) (pa_cons (pe_tup (pa_cons pe_str (pa_cons pe_str pa_nil))) (pa_cons (pe_tup (pa_cons pe_str (pa_cons pe_str pa_nil))) pa_nil)))))))
    (pss_cons (ps_set (i := 2) sc__law_pools.nd rfl (.inl rfl) (pe_lst (pa_cons (pe_tup (pa_cons pe_str (pa_cons pe_str pa_nil))) (pa_cons (pe_tup (pa_cons pe_str (pa_cons pe_str pa_nil))) (pa_cons (pe_tup (pa_cons pe_str (pa_cons pe_str pa_nil))) (pa_cons (pe_tup (pa_cons pe_str (pa_cons pe_str pa_nil))) pa_nil))))))
    (pss_one (ps_ret (pe_disp (pps_cons pe_str (pv 0) (pps_cons pe_str (pv 1) (pps_cons pe_str (pv 2) (pps_cons pe_str (pe_lst (pa_cons (pe_tup (pa_cons pe_str (pa_cons pe_str pa_nil))) (pa_cons (pe_tup (pa_cons pe_str (pa_cons pe_str pa_nil))) (pa_cons (pe_tup (pa_cons pe_str (pa_cons pe_str pa_nil))) (pa_cons (pe_tup (pa_cons pe_str (pa_cons pe_str pa_nil))) pa_nil))))) pps_nil)))) rfl rfl (fun z => by cases z) (by decide))))))), ?_⟩
    show tSeq (tAsg (tLst (tPairTs nounS)) (gName 0)) (tSeq (tAsg (tLst (tPairTs adjS)) (gName 1)) (tSeq (tAsg (tLst (tPairTs verbS)) (gName 2)) (tRet (tDisp [(tC (tx "noun"), tVar 0), (tC (tx "adj"), tVar 1), (tC (tx "verb"), tVar 2), (tC (tx "name"), tLst (tPairTs nameS))])))) _ _ _
    refine seq_lst nounS (by decide) 0 _ _ _ _ fun l1 H1 s1 p1 => ?_
    refine seq_lst adjS (by decide) 1 _ _ _ _ fun l2 H2 s2 p2 => ?_
    refine seq_lst verbS (by decide) 2 _ _ _ _ fun l3 H3 s3 p3 => ?_
    refine fun d nd => ⟨_, rfl, _, rfl, _, rfl, ?_⟩
    refine prs_lst nameS (by decide) _ _ _ _ _ fun l4 H4 s4 p4 => ?_
    refine ⟨s4 _ _ upd_same, [(Sum.inr (PySem.Str.ofString "noun"), .ref l1), (Sum.inr (PySem.Str.ofString "adj"), .ref l2), (Sum.inr (PySem.Str.ofString "verb"), .ref l3), (Sum.inr (PySem.Str.ofString "name"), .ref l4)], rfl, by show 4 ≤ 15; decide, ?_⟩
    have s34 : Same H3 H4 := (same_upd nd).trans s4
    have sm : Same H4 (upd H4 d (.dK (poolK l1 l2 l3 l4))) ∨ True := .inr trivial
    have kp : ∀ {l : Addr} {ps : List (String × String)}, PoolAt H3 l ps → PoolAt (upd H4 d (.dK (poolK l1 l2 l3 l4))) l ps := fun {l ps} h => by
      obtain ⟨vs, h1, h2, h3⟩ := h
      have ne : ∀ {b : Addr} {o : HO}, H3 b = some o → b ≠ d := fun {b o} e z => by rw [z, nd] at e; cases e
      exact ⟨vs, by rw [upd_ne (ne h1)]; exact s34 _ _ h1, h2, fun i x e => let ⟨a, e1, e2⟩ := h3 i x e; ⟨a, e1, by rw [upd_ne (ne e2)]; exact s34 _ _ e2⟩⟩
    have kp4 : PoolAt (upd H4 d (.dK (poolK l1 l2 l3 l4))) l4 nameS := by
      obtain ⟨vs, h1, h2, h3⟩ := p4
      have ne : ∀ {b : Addr} {xs : List V}, (H4 b = some (.lst xs) ∨ H4 b = some (.tup xs)) → b ≠ d := fun {b xs} e z => by rw [z, s4 _ _ upd_same] at e; rcases e with e | e <;> cases e
      exact ⟨vs, by rw [upd_ne (ne (.inl h1))]; exact h1, h2, fun i x e => let ⟨a, e1, e2⟩ := h3 i x e; ⟨a, e1, by rw [upd_ne (ne (.inr e2))]; exact e2⟩⟩
    refine q _ d l1 l2 l3 l4 (fun b o e => ?_) upd_same (kp ((p1.same s2).same s3)) (kp (p2.same s3)) (kp p3) kp4
    have e3 : H3 b = some o := s3 _ _ (s2 _ _ (s1 _ _ e))
    show upd H4 d _ b = _
    rw [upd_ne (fun z => by rw [z, nd] at e3; cases e3)]
    exact s34 _ _ e3
end
end K34
set_option Elab.async false
set_option linter.all false
set_option maxRecDepth 100000
set_option maxHeartbeats 4000000
namespace K34
open PySem PySem.Spec PyProof.Rows L2 Tw Tk Lx
section
variable {P : Program} {w : World} {K : PySem.W.Frag} {mg : Str → Option Value} {base : Heap} {CT CI CL CM CX_ aL aN aF aP aT aK aNN aFN : Addr} {es : Array DictEntry} {en : Nat}
/-! ### _law_lexicon -/
theorem Deck.same {H H' : Hp} {p : Addr} (h : Deck H p) (s : Same H H') : Deck H' p := let ⟨ds, a, b⟩ := h; ⟨ds, s _ _ a, b⟩
theorem Deck.kp {H H' : Hp} {p d : Addr} (h : Deck H p) (k : Kp d H H') (n : p ≠ d) : Deck H' p := let ⟨ds, a, b⟩ := h; ⟨ds, k _ _ a n, b⟩
theorem Deck.ne {H : Hp} {p d : Addr} (h : Deck H p) (n : H d = none) : p ≠ d := let ⟨_, a, _⟩ := h; ne_of_none a n
theorem Prs.erase {H : Hp} {vs : List V} {ps : List (String × String)} (h : Prs H vs ps) (k : Nat) : Prs H (vs.eraseIdx k) (ps.eraseIdx k) := by
  refine ⟨by rw [List.length_eraseIdx, List.length_eraseIdx, h.1], fun i q e => ?_⟩
  rw [List.getElem?_eraseIdx] at e ⊢
  split at e
  · rename_i c
    rw [if_pos c]
    exact h.2 _ _ e
  · rename_i c
    rw [if_neg c]
    exact h.2 _ _ e
theorem Ents.erase {H : Hp} {vs : List V} {rows : List Ent} (h : Ents H vs rows) (k : Nat) : Ents H (vs.eraseIdx k) (rows.eraseIdx k) := by
  refine ⟨by rw [List.length_eraseIdx, List.length_eraseIdx, h.1], fun i q e => ?_⟩
  rw [List.getElem?_eraseIdx] at e ⊢
  split at e
  · rename_i c
    rw [if_pos c]
    exact h.2 _ _ e
  · rename_i c
    rw [if_neg c]
    exact h.2 _ _ e
theorem Ents.snoc {H : Hp} {vs : List V} {rows : List Ent} (h : Ents H vs rows) {r : Ent} {a : Addr} (e : H a = some (.tup (rowV r))) : Ents H (vs ++ [.ref a]) (rows ++ [r]) := by
  refine ⟨by rw [List.length_append, List.length_append, h.1]; rfl, fun i q hq => ?_⟩
  by_cases c : i < rows.length
  · rw [List.getElem?_append_left c] at hq
    obtain ⟨b, h1, h2⟩ := h.2 i q hq
    exact ⟨b, by rw [List.getElem?_append_left (by rw [h.1]; exact c)]; exact h1, h2⟩
  · rw [List.getElem?_append_right (by omega)] at hq
    have z : i - rows.length = 0 := by
      by_cases y : i - rows.length = 0
      · exact y
      · rw [List.getElem?_eq_none (by simp; omega)] at hq; cases hq
    rw [z] at hq
    cases (show r = q from Option.some.inj hq)
    exact ⟨a, by rw [List.getElem?_append_right (by rw [h.1]; omega), h.1, z]; rfl, e⟩
/-- tuples stay when lists and the deck change -/
def KpT (H H' : Hp) : Prop := ∀ b xs, H b = some (.tup xs) → H' b = some (.tup xs)
theorem Ents.kpt {H H' : Hp} {vs : List V} {rows : List Ent} (e : Ents H vs rows) (s : KpT H H') : Ents H' vs rows := ⟨e.1, fun i r h => let ⟨q, a, b⟩ := e.2 i r h; ⟨q, a, s _ _ b⟩⟩
theorem Prs.kpt {H H' : Hp} {vs : List V} {ps : List (String × String)} (h : Prs H vs ps) (s : KpT H H') : Prs H' vs ps := ⟨h.1, fun i q e => let ⟨a, h1, h2⟩ := h.2 i q e; ⟨a, h1, s _ _ h2⟩⟩
theorem KpT.of {H H' : Hp} {p : Addr} {o : HO} (e : H p = some o) (ho : ∀ xs, o ≠ .tup xs) (k : Kp p H H') : KpT H H' := fun b xs h => k _ _ h fun z => by rw [z, e] at h; exact ho xs (Option.some.inj h)
theorem KpT.trans {H H1 H2 : Hp} (a : KpT H H1) (b : KpT H1 H2) : KpT H H2 := fun x xs h => b _ _ (a _ _ h)
def RowsAt (H : Hp) (m : Addr) (rows : List Ent) : Prop := ∃ vs, H m = some (.lst vs) ∧ Ents H vs rows
def spLexi (K : PySem.W.Frag) : Sp := fun vs H Q _ => ∃ (p z : Addr), vs = [.ref p, .ref z] ∧ Deck H p ∧ SqT K H z [.int 5, .int 4, .int 3, .int 3] ∧
  ∀ H' m rows, Kp p H H' → Deck H' p → H m = none → RowsAt H' m rows → Rows rows → 1 ≤ rows.length → rows.length ≤ 15 → Q (.ref m) H'
abbrev s__law_lexicon : Stmt := topS 28
theorem sc__law_lexicon : FnScope ["deck", "sizes", "rows", "kind", "most", "pool", "turn", "near", "far", "person", "mixed"] ["deck", "sizes"] (defScope s__law_lexicon) := ⟨rfl, rfl, rfl, by decide +kernel, rfl, by decide +kernel, by decide +kernel⟩
theorem ok_lexi {f : Addr} {fd : FuncData} (F : Fun K "_law_lexicon" "_law_lexicon" s__law_lexicon f fd) (T : Tx mg) (C__law_pools : C8.Cal P w K mg base 1 "_law_pools" spPools []) (C__law_take : C8.Cal P w K mg base 1 "_law_take" spTake []) : FnOk P w K mg base CX0 2 f fd ["deck", "sizes"] (spLexi K) := by
  refine F.ok sc__law_lexicon (fun vs H Q E h => ?_) (fun cdv A outer s H vs Q E hr h => ?_)
  · obtain ⟨p, z, rfl, _⟩ := h
    rfl
  · obtain ⟨p, z, rfl, hd, hz, q⟩ := h
    refine ⟨_, (pss_cons (ps_set (i := 2) sc__law_lexicon.nd rfl (.inl rfl) (pe_lst pa_nil))
    (pss_cons (ps_for PassesOwn.never rfl (RZ.pi_zipA rfl T.n_zip (pa_cons (pe_tup (pa_cons pe_str (pa_cons pe_str (pa_cons pe_str (pa_cons pe_str pa_nil))))) (pa_cons (pv 1) pa_nil))) (pg_tup rfl (pgs_cons (pg_name (i := 3) sc__law_lexicon.nd rfl (.inl rfl)) (pgs_cons (pg_name (i := 4) sc__law_lexicon.nd rfl (.inl rfl)) pgs_nil)))
      (pss_cons (ps_set (i := 5) sc__law_lexicon.nd rfl (.inl rfl) (pe_callTy call_list_of rfl T.n_list (by decide +kernel) (pa_cons (pe_dget (hu_of hr) (LX.pe_c0 C__law_pools hr (by omega) rfl) (pv 3) (fun _ _ => rfl)) pa_nil)))
      (pss_one (ps_for PassesOwn.never rfl (pi_range1 rfl T.n_range (pa_cons (pe_op op_add pe_int (C8.pe_c C__law_take hr (by omega) rfl (pa_cons (pv 0) (pa_cons (pv 4) pa_nil)))) pa_nil)) (pg_name (i := 6) sc__law_lexicon.nd rfl (.inl rfl))
        (pss_cons (ps_asg (pe_bm PySem.F.plainAttrs_list PySem.F.slot_list_pop PySem.F.type_list_pop mt_popAt (pv 5) (pa_cons (C8.pe_c C__law_take hr (by omega) rfl (pa_cons (pv 0) (pa_cons (pe_callB call_len_seq rfl T.n_len (by decide +kernel) (pa_cons (pv 5) pa_nil)) pa_nil))) pa_nil)) (pg_tup rfl (pgs_cons (pg_name (i := 7) sc__law_lexicon.nd rfl (.inl rfl)) (pgs_cons (pg_name (i := 8) sc__law_lexicon.nd rfl (.inl rfl)) pgs_nil))))
        (pss_cons (ps_set (i := 9) sc__law_lexicon.nd rfl (.inl rfl) (pe_ifExp (pt_cmpR op_eq (pv 3) pe_str (nomark _)) (pe_ix ix_tup (pe_tup (pa_cons pe_str (pa_cons pe_str (pa_cons pe_str pa_nil)))) (C8.pe_c C__law_take hr (by omega) rfl (pa_cons (pv 0) (pa_cons pe_int pa_nil))) (fun _ _ => rfl)) pe_non))
        (pss_one (ps_expr (pe_bm PySem.F.plainAttrs_list PySem.F.slot_list_append PySem.F.type_list_append mt_append (pv 2) (pa_cons (pe_tup (pa_cons (pv 3) (pa_cons (pv 7) (pa_cons (pv 8) (pa_cons (pv 9) pa_nil))))) pa_nil))))))))))
    (pss_cons (ps_set (i := 10) sc__law_lexicon.nd rfl (.inl rfl) (pe_lst pa_nil))
    (pss_cons (ps_for PassesOwn.never rfl (pi_range1 rfl T.n_range (pa_cons (pe_callB call_len_seq rfl T.n_len (by decide +kernel) (pa_cons (pv 2) pa_nil)) pa_nil)) (pg_name (i := 6) sc__law_lexicon.nd rfl (.inl rfl))
      (pss_one (ps_expr (pe_bm PySem.F.plainAttrs_list PySem.F.slot_list_append PySem.F.type_list_append mt_append (pv 10) (pa_cons (pe_bm PySem.F.plainAttrs_list PySem.F.slot_list_pop PySem.F.type_list_pop mt_popAt (pv 2) (pa_cons (C8.pe_c C__law_take hr (by omega) rfl (pa_cons (pv 0) (pa_cons (pe_callB call_len_seq rfl T.n_len (by decide +kernel) (pa_cons (pv 2) pa_nil)) pa_nil))) pa_nil)) pa_nil)))))
    (pss_one (ps_ret (pv 10))))))), ?_⟩
    refine ⟨Nat.zero_le _, fun R nR => ?_⟩
    refine ⟨by show 4 ≤ sizeLine; decide, fun t nt => ⟨_, rfl, ?_⟩⟩
    generalize hG : upd (upd H R (.lst [])) t _ = Ht
    have hHt : Ht = upd (upd H R (.lst [])) t (.tup (["noun", "adj", "verb", "name"].map tx)) := hG.symm
    have sHt : Same H Ht := by rw [hHt]; exact (same_upd nR).trans (same_upd nt)
    have ht : Ht t = some (.tup (["noun", "adj", "verb", "name"].map tx)) := by rw [hHt]; exact upd_same
    have hR : Ht R = some (.lst []) := by rw [hHt]; exact same_upd nt _ _ upd_same
    have hdt : Deck Ht p := hd.same sHt
    have pR : p ≠ R := hd.ne nR
    obtain ⟨ds0, hp0, _⟩ := id hdt
    have tz : ∀ {H' : Hp}, Fr2 p R Ht H' → SqT K H' z [.int 5, .int 4, .int 3, .int 3] := fun {H'} f => by
      rcases hz with (h | ⟨x, h⟩) | h
      · exact .inl (.inl (f _ _ (sHt _ _ h) (fun e => by have := sHt _ _ h; rw [e, hp0] at this; cases this) (fun e => by rw [e, nR] at h; cases h)))
      · exact .inl (.inr ⟨x, f _ _ (sHt _ _ h) (fun e => by have := sHt _ _ h; rw [e, hp0] at this; cases this) (fun e => by rw [e, nR] at h; cases h)⟩)
      · exact .inr h
    have tt : ∀ {H' : Hp}, Fr2 p R Ht H' → SqT K H' t (["noun", "adj", "verb", "name"].map tx) := fun f => .inl (.inl (f _ _ ht (fun e => by rw [e, hp0] at ht; cases ht) (fun e => by rw [e, hR] at ht; cases ht)))
    refine ⟨t, z, ["noun", "adj", "verb", "name"].map tx, [.int 5, .int 4, .int 3, .int 3], rfl, .inr ⟨tt (fun _ _ h _ _ => h), tz (fun _ _ h _ _ => h), ?_⟩⟩
    refine RZ.for_zipT (xs := ["noun", "adj", "verb", "name"].map tx) (ys := [.int 5, .int 4, .int 3, .int 3]) rfl (fun i σ H' => ∃ (y3 y4 y5 y6 y7 y8 y9 : Option V) (vsR : List V) (rs : List Ent), σ = [some (.ref p), some (.ref z), some (.ref R), y3, y4, y5, y6, y7, y8, y9, none] ∧ Deck H' p ∧ Fr2 p R Ht H' ∧ H' R = some (.lst vsR) ∧ Ents H' vsR rs ∧ Rows rs ∧
      (∀ r ∈ rs, ∃ t ∈ kinds4.take i, r.k = sN t.1) ∧ i ≤ rs.length ∧ rs.length ≤ ((kinds4.take i).map fun t => t.2.2).sum) ?_ ?_ ?_ ?_
    · exact ⟨_, _, _, _, _, _, _, [], [], rfl, hdt, fun _ _ h _ _ => h, hR, ⟨rfl, fun i r h => by simp at h⟩, ⟨fun r h => by simp at h, .nil⟩, fun r h => by simp at h, Nat.le_refl _, Nat.le_refl _⟩
    · rintro i σ H' ⟨_, _, _, _, _, _, _, _, _, _, _, f, _⟩
      exact ⟨tt f, tz f⟩
    · rintro i x y T σ H1 hx hy ⟨y3, y4, y5, y6, y7, y8, y9, vsR, rs, rfl, hd1, f1, hR1, hE1, hrows, hk, hl1, hl2⟩ nT
      obtain ⟨kd, ps, m, htab, rfl, rfl⟩ : ∃ kd ps m, kinds4[i]? = some (kd, ps, m) ∧ x = tx kd ∧ y = .int (m : Nat) := by
        match i, hx, hy with
        | 0, hx, hy => exact ⟨_, _, _, rfl, (Option.some.inj hx).symm, (Option.some.inj hy).symm⟩
        | 1, hx, hy => exact ⟨_, _, _, rfl, (Option.some.inj hx).symm, (Option.some.inj hy).symm⟩
        | 2, hx, hy => exact ⟨_, _, _, rfl, (Option.some.inj hx).symm, (Option.some.inj hy).symm⟩
        | 3, hx, hy => exact ⟨_, _, _, rfl, (Option.some.inj hx).symm, (Option.some.inj hy).symm⟩
        | i + 4, hx, _ => simp at hx
      obtain ⟨t1, t2, t3, t4, t5, t6⟩ := kinds4_fit _ (List.mem_of_getElem? htab)
      dsimp only at t1 t2 t3 t4 t5 t6
      refine ⟨T, _, rfl, .inl (.inl upd_same), rfl, _, _, rfl, _, _, rfl, rfl, ?_⟩
      -- pool = list(_law_pools()[kind])
      have R1 : H1 R = some (.lst vsR) := hR1
      have sT : Same H1 (upd H1 T (.tup [tx kd, .int (m : Nat)])) := same_upd nT
      refine ⟨rfl, fun H2 d l1 l2 l3 l4 s2 hdict p1 p2 p3 p4 => ?_⟩
      obtain ⟨l0, vs0, hv0, hl0, hp0'⟩ : ∃ l0 vs0, valV (poolK l1 l2 l3 l4) (Sum.inr (PySem.Str.ofString kd)) = some (.ref l0) ∧ H2 l0 = some (.lst vs0) ∧ Prs H2 vs0 ps := by
        match i, htab with
        | 0, h => cases (Option.some.inj h); obtain ⟨vs0, a1, a2⟩ := p1; exact ⟨l1, vs0, by rfl, a1, a2⟩
        | 1, h => cases (Option.some.inj h); obtain ⟨vs0, a1, a2⟩ := p2; exact ⟨l2, vs0, by rfl, a1, a2⟩
        | 2, h => cases (Option.some.inj h); obtain ⟨vs0, a1, a2⟩ := p3; exact ⟨l3, vs0, by rfl, a1, a2⟩
        | 3, h => cases (Option.some.inj h); obtain ⟨vs0, a1, a2⟩ := p4; exact ⟨l4, vs0, by rfl, a1, a2⟩
        | i + 4, h => exact absurd h (by show (none : Option _) = _ → False; intro z; cases z)
      have dg : DGet H2 d (tx kd) (some (.ref l0)) := by
        rw [← hv0]
        exact DGet.k (k := Sum.inr (PySem.Str.ofString kd)) hdict
      have s12 : Same H1 H2 := sT.trans s2
      refine ⟨_, rfl, d, .ref l0, rfl, dg, l0, vs0, rfl, .inl (.inl (.inl hl0)), fun l nl => ?_⟩
      obtain ⟨H3, hH3⟩ : ∃ H3, H3 = upd H2 l (.lst vs0) := ⟨_, rfl⟩
      rw [← hH3]
      have s23 : Same H2 H3 := by rw [hH3]; exact same_upd nl
      have s13 : Same H1 H3 := s12.trans s23
      have hl3 : H3 l = some (.lst vs0) := by rw [hH3]; exact upd_same
      have nl1 : H1 l = none := by
        cases e : H1 l with
        | none => rfl
        | some o => rw [s12 _ _ e] at nl; cases nl
      have hd3 : Deck H3 p := hd1.same s13
      have pl : p ≠ l := hd1.ne nl1
      have Rl : R ≠ l := ne_of_none R1 nl1
      have f3 : Fr2 p R Ht H3 := fun b o h n1 n2 => s13 _ _ (f1 _ _ h n1 n2)
      have lHt : Ht l = none := by
        cases e : Ht l with
        | none => rfl
        | some o => rw [f1 _ _ e (Ne.symm pl) (Ne.symm Rl)] at nl1; cases nl1
      -- range(1 + _law_take(deck, most))
      refine ⟨_, rfl, _, rfl, p, m, rfl, by omega, hd3, fun H4 r k4 hd4 r0 r1 => ?_⟩
      obtain ⟨n, rfl⟩ : ∃ n : Nat, r = (n : Int) := ⟨r.toNat, by omega⟩
      refine ⟨1, _, rfl, rfl, _, rfl, by omega, by omega, ?_⟩
      rw [show (1 + (n : Int)).toNat = n + 1 by omega]
      have nR4 : H4 R = some (.lst vsR) := k4 _ _ (s13 _ _ R1) (Ne.symm pR)
      have t34 : KpT H3 H4 := by
        obtain ⟨ds, e1, _⟩ := id hd3
        exact KpT.of e1 (fun xs z => by cases z) k4
      refine for_range (lo := 0) (n := n + 1) (fun j σ H' => ∃ (y6 y7 y8 y9 : Option V) (vsR' : List V) (rs' : List Ent) (vsL : List V) (pl' : List (String × String)), σ = [some (.ref p), some (.ref z), some (.ref R), some (tx kd), some (.int (m : Nat)), some (.ref l), y6, y7, y8, y9, none] ∧ Deck H' p ∧ Fr2 p R Ht H' ∧ H' R = some (.lst vsR') ∧ Ents H' vsR' rs' ∧ Rows rs' ∧
        (∀ r ∈ rs', ∃ t ∈ kinds4.take (i + 1), r.k = sN t.1) ∧ rs'.length = rs.length + j ∧ H' l = some (.lst vsL) ∧ Prs H' vsL pl' ∧ Left rs' kd ps pl' ∧ pl'.length + j = ps.length) ?_ ?_ ?_
      · refine ⟨_, _, _, _, vsR, rs, vs0, ps, rfl, hd4, fun b o h n1 n2 => k4 _ _ (f3 b o h n1 n2) n1, nR4, (hE1.same s13).kpt t34, hrows, fun r hr => ?_, rfl, k4 _ _ hl3 (Ne.symm pl), (hp0'.same s23).kpt t34, ⟨t1, fun q h => h, fun r hr hkr q hq => ?_⟩, rfl⟩
        · obtain ⟨t, ht1, ht2⟩ := hk r hr
          exact ⟨t, by rw [List.take_add_one]; exact List.mem_append_left _ ht1, ht2⟩
        · obtain ⟨t, ht1, ht2⟩ := hk r hr
          exact absurd (ht2.symm.trans hkr) (kinds4_apart htab ht1)
      · rintro j σ H5 hj ⟨y6, y7, y8, y9, vsR', rs', vsL, pl', rfl, hd5, f5, hR5, hE5, hrows5, hk5, hl5, hL5, hP5, hleft, hpl⟩
        have vl : vsL.length = pl'.length := hP5.1
        refine ⟨_, rfl, .inl ⟨rfl, _, .inl (.inl hL5)⟩, _, rfl, _, rfl, l, vsL, rfl, .inl (.inl (.inl hL5)), p, _, rfl, by omega, hd5, fun H6 r k6 hd6 r0 r1 => ?_⟩
        have hkx : r.toNat < pl'.length := by omega
        obtain ⟨qq, hqq⟩ : ∃ qq, pl'[r.toNat]? = some qq := ⟨_, List.getElem?_eq_getElem hkx⟩
        obtain ⟨a, ha1, ha2⟩ := hP5.2 _ _ hqq
        have t56 : KpT H5 H6 := by
          obtain ⟨ds, e1, _⟩ := id hd5
          exact KpT.of e1 (fun xs z => by cases z) k6
        have hL6 : H6 l = some (.lst vsL) := k6 _ _ hL5 (Ne.symm pl)
        obtain ⟨H7, hH7⟩ : ∃ H7, H7 = upd H6 l (.lst (vsL.eraseIdx r.toNat)) := ⟨_, rfl⟩
        have k67 : Kp l H6 H7 := by rw [hH7]; exact Kp.upd
        have t67 : KpT H6 H7 := KpT.of hL6 (fun xs z => by cases z) k67
        have hd7 : Deck H7 p := hd6.kp k67 pl
        have ha7 : H7 a = some (.tup [tx qq.1, tx qq.2]) := t67 _ _ (t56 _ _ ha2)
        have hR7 : H7 R = some (.lst vsR') := k67 _ _ (k6 _ _ hR5 (Ne.symm pR)) Rl
        refine ⟨l, vsL, r, r.toNat, .ref a, rfl, rfl, hL6, by omega, by omega, seqIndex_of r0 (by omega), ha1, ?_⟩
        rw [← hH7]
        refine ⟨a, _, rfl, .inl (.inl ha7), rfl, _, _, rfl, _, _, rfl, rfl, ?_⟩
        have hjl : vsR'.length ≤ 100 := by rw [hE5.1]; have := Nat.le_trans hl2 (kinds4_sum i); omega
        have fin : ∀ (H8 : Hp) (pers : Option (List Nat)), Kp p H7 H8 → Deck H8 p → (⟨sN kd, sN qq.1, sN qq.2, pers⟩ : Ent) ∈ allRows → H8 R = some (.lst vsR') ∧ ∀ (T : Addr), H8 T = none →
            ∀ H9, H9 = upd (upd H8 T (.tup [tx kd, tx qq.1, tx qq.2, pV pers])) R (.lst (vsR' ++ [.ref T])) → ∃ (rs2 : List Ent) (vsL2 : List V) (pl2 : List (String × String)), Deck H9 p ∧ Fr2 p R Ht H9 ∧ H9 R = some (.lst (vsR' ++ [.ref T])) ∧ Ents H9 (vsR' ++ [.ref T]) rs2 ∧ Rows rs2 ∧
              (∀ r ∈ rs2, ∃ t ∈ kinds4.take (i + 1), r.k = sN t.1) ∧ rs2.length = rs.length + (j + 1) ∧ H9 l = some (.lst vsL2) ∧ Prs H9 vsL2 pl2 ∧ Left rs2 kd ps pl2 ∧ pl2.length + (j + 1) = ps.length := by
          intro H8 pers k78 hd8 hm
          have hR8 : H8 R = some (.lst vsR') := k78 _ _ hR7 (Ne.symm pR)
          refine ⟨hR8, fun T nT H9 hH9 => ?_⟩
          have RT : R ≠ T := ne_of_none hR8 nT
          have t78 : KpT H7 H8 := by
            obtain ⟨ds, e1, _⟩ := id hd7
            exact KpT.of e1 (fun xs z => by cases z) k78
          have t89 : KpT H8 H9 := fun b xs h => by
            rw [hH9, upd_ne (fun z => by rw [z, hR8] at h; cases h)]
            exact same_upd nT _ _ h
          have hL7 : H7 l = some (.lst (vsL.eraseIdx r.toNat)) := by rw [hH7]; exact upd_same
          have hL8 : H8 l = some (.lst (vsL.eraseIdx r.toNat)) := k78 _ _ hL7 (Ne.symm pl)
          have t59 : KpT H5 H9 := ((t56.trans t67).trans t78).trans t89
          obtain ⟨g1, g2, g3⟩ := hleft.step hrows5 hqq hm
          have e9 : H9 T = some (.tup (rowV ⟨sN kd, sN qq.1, sN qq.2, pers⟩)) := by
            rw [hH9, upd_ne (Ne.symm RT), upd_same]
            unfold rowV tx
            rw [S_sN, S_sN, S_sN]
          refine ⟨rs' ++ [⟨sN kd, sN qq.1, sN qq.2, pers⟩], vsL.eraseIdx r.toNat, pl'.eraseIdx r.toNat, ?_, fun b o h n1 n2 => ?_, by rw [hH9]; exact upd_same, (hE5.kpt t59).snoc e9, g2, fun x hx => ?_, by rw [List.length_append, hl5]; rfl, ?_, (hP5.erase _).kpt t59, g1, ?_⟩
          · rw [hH9]
            exact (hd8.same (same_upd nT)).kp Kp.upd pR
          · have e5 := f5 b o h n1 n2
            have nl' : b ≠ l := fun z => by rw [z, lHt] at h; cases h
            have e8 : H8 b = some o := k78 _ _ (k67 _ _ (k6 _ _ e5 n1) nl') n1
            rw [hH9, upd_ne n2]
            exact same_upd nT _ _ e8
          · rcases List.mem_append.mp hx with hx | hx
            · exact hk5 x hx
            · rw [List.mem_singleton.mp hx]
              exact ⟨(kd, ps, m), by rw [List.take_add_one, htab]; exact List.mem_append_right _ (by simp), rfl⟩
          · rw [hH9, upd_ne (Ne.symm Rl)]
            exact same_upd nT _ _ hL8
          · rw [List.length_eraseIdx, if_pos hkx]
            omega
        have hmem := t6 qq (hleft.mem qq (List.mem_of_getElem? hqq))
        by_cases hkd : sN kd = sN "name"
        · have ekd : tx kd = tx "name" := by unfold tx; rw [S_sN, S_sN, hkd]
          refine ⟨_, rfl, rfl, _, rfl, ?_⟩
          rw [show decide (tx kd = V.str (PySem.Str.ofString "name")) = true from decide_eq_true ekd]
          refine iteT ⟨by show 3 ≤ sizeLine; decide, fun tt' ntt => ⟨_, rfl, p, 3, rfl, by decide, hd7.same (same_upd ntt), fun H8 r' k8 hd8 r0' r1' => ?_⟩⟩
          obtain ⟨w', hw', hw''⟩ : ∃ w', ["he", "she", "it"][r'.toNat]? = some w' ∧ w' ∈ ["he", "she", "it"] := by
            have : r'.toNat < ["he", "she", "it"].length := by show r'.toNat < 3; omega
            exact ⟨_, List.getElem?_eq_getElem this, List.getElem_mem _⟩
          have k78 : Kp p H7 H8 := fun b o h n => k8 _ _ (same_upd ntt _ _ h) n
          obtain ⟨f1', f2'⟩ := fin H8 (some (sN w')) k78 hd8 (hmem.1 hkd w' hw'')
          have htt : H8 tt' = some (.tup (["he", "she", "it"].map tx)) := k8 _ _ (upd_same.trans (by rfl)) (Ne.symm (hd7.ne ntt))
          refine ⟨tt', _, r', tx w', rfl, rfl, .inl (.inl htt), atI_ofNat r0' (by rw [List.getElem?_map, hw']; rfl), _, rfl, .inl ⟨rfl, _, .inl (.inl f1')⟩, _, rfl, _, rfl, _, rfl, _, rfl, by show 4 ≤ sizeLine; decide, fun T nT' => ?_⟩
          have RT : R ≠ T := ne_of_none f1' nT'
          obtain ⟨rs2, vsL2, pl2, hfin⟩ := f2' T nT' _ rfl
          have epv : pV (some (sN w')) = tx w' := by unfold pV tx; rw [S_sN]
          rw [epv] at hfin
          exact ⟨R, vsR', _, rfl, rfl, by rw [upd_ne RT]; exact f1', szl (by omega), _, _, _, _, _, rs2, vsL2, pl2, rfl, hfin⟩
        · have ekd : tx kd ≠ tx "name" := fun z => hkd (by unfold tx at z; rw [S_sN, S_sN] at z; injection z with z; exact S_inj.mp z)
          refine ⟨_, rfl, rfl, _, rfl, ?_⟩
          rw [show decide (tx kd = V.str (PySem.Str.ofString "name")) = false from decide_eq_false ekd]
          obtain ⟨f1', f2'⟩ := fin H7 none (fun _ _ h _ => h) hd7 (hmem.2 hkd)
          refine iteF ⟨_, rfl, .inl ⟨rfl, _, .inl (.inl f1')⟩, _, rfl, _, rfl, _, rfl, _, rfl, by show 4 ≤ sizeLine; decide, fun T nT' => ?_⟩
          have RT : R ≠ T := ne_of_none f1' nT'
          obtain ⟨rs2, vsL2, pl2, hfin⟩ := f2' T nT' _ rfl
          exact ⟨R, vsR', _, rfl, rfl, by rw [upd_ne RT]; exact f1', szl (by omega), _, _, _, _, _, rs2, vsL2, pl2, rfl, hfin⟩
      · rintro σ H5 ⟨y6, y7, y8, y9, vsR', rs', vsL, pl', rfl, hd5, f5, hR5, hE5, hrows5, hk5, hl5, hL5, hP5, hleft, hpl⟩
        refine ⟨_, _, _, _, _, _, _, vsR', rs', rfl, hd5, f5, hR5, hE5, hrows5, hk5, by omega, ?_⟩
        rw [List.take_add_one, htab, List.map_append, List.sum_append]
        show _ ≤ _ + (m + 0)
        omega
    · rintro σ H1 ⟨y3, y4, y5, y6, y7, y8, y9, vsR, rs, rfl, hd1, f1, hR1, hE1, hrows, hk, hl1, hl2⟩
      have hl1' : 4 ≤ rs.length := hl1
      have hl2' : rs.length ≤ 15 := Nat.le_trans hl2 (kinds4_sum _)
      have fH1 : Kp p H H1 := fun b o h n => f1 b o (sHt _ _ h) n fun z => by rw [z, nR] at h; cases h
      refine ⟨Nat.zero_le _, fun M nM => ?_⟩
      have sM : Same H1 (upd H1 M (.lst [])) := same_upd nM
      have RM : R ≠ M := ne_of_none hR1 nM
      have pM : p ≠ M := hd1.ne nM
      have MH : H M = none := by
        cases e : H M with
        | none => rfl
        | some o => rw [fH1 _ _ e (Ne.symm pM)] at nM; cases nM
      have vl1 : vsR.length = rs.length := hE1.1
      refine ⟨_, rfl, R, vsR, rfl, .inl (.inl (.inl (sM _ _ hR1))), _, rfl, by omega, by omega, ?_⟩
      rw [show ((vsR.length : Int).toNat) = rs.length by omega]
      refine for_range (lo := 0) (n := rs.length) (fun j σ H' => ∃ (y6 : Option V) (vsA vsB : List V) (ra rb : List Ent), σ = [some (.ref p), some (.ref z), some (.ref R), y3, y4, y5, y6, y7, y8, y9, some (.ref M)] ∧ Deck H' p ∧ Kp p H H' ∧ H' R = some (.lst vsA) ∧ Ents H' vsA ra ∧ H' M = some (.lst vsB) ∧ Ents H' vsB rb ∧ (rb ++ ra).Perm rs ∧ rb.length = j) ?_ ?_ ?_
      · exact ⟨_, vsR, [], rs, [], rfl, hd1.same sM, fun b o h n => sM _ _ (fH1 b o h n), sM _ _ hR1, hE1.same sM, upd_same, ⟨rfl, fun i r h => by simp at h⟩, List.Perm.refl _, rfl⟩
      · rintro j σ H5 hj ⟨y6, vsA, vsB, ra, rb, rfl, hd5, f5, hR5, hA5, hM5, hB5, hperm, hrb⟩
        have pl := hperm.length_eq
        rw [List.length_append] at pl
        have va : vsA.length = ra.length := hA5.1
        have vb : vsB.length = rb.length := hB5.1
        refine ⟨_, rfl, .inl ⟨rfl, _, .inl (.inl hM5)⟩, _, rfl, .inl ⟨rfl, _, .inl (.inl hR5)⟩, _, rfl, _, rfl, R, vsA, rfl, .inl (.inl (.inl hR5)), p, _, rfl, by omega, hd5, fun H6 r k6 hd6 r0 r1 => ?_⟩
        have hkx : r.toNat < ra.length := by omega
        obtain ⟨e, he⟩ : ∃ e, ra[r.toNat]? = some e := ⟨_, List.getElem?_eq_getElem hkx⟩
        obtain ⟨a, ha1, ha2⟩ := hA5.2 _ _ he
        have t56 : KpT H5 H6 := by
          obtain ⟨ds, e1, _⟩ := id hd5
          exact KpT.of e1 (fun xs z => by cases z) k6
        have hR6 : H6 R = some (.lst vsA) := k6 _ _ hR5 (Ne.symm pR)
        have hM6 : H6 M = some (.lst vsB) := k6 _ _ hM5 (Ne.symm pM)
        obtain ⟨H7, hH7⟩ : ∃ H7, H7 = upd H6 R (.lst (vsA.eraseIdx r.toNat)) := ⟨_, rfl⟩
        have k67 : Kp R H6 H7 := by rw [hH7]; exact Kp.upd
        have t67 : KpT H6 H7 := KpT.of hR6 (fun xs z => by cases z) k67
        have hM7 : H7 M = some (.lst vsB) := k67 _ _ hM6 (Ne.symm RM)
        obtain ⟨H8, hH8⟩ : ∃ H8, H8 = upd H7 M (.lst (vsB ++ [.ref a])) := ⟨_, rfl⟩
        have k78 : Kp M H7 H8 := by rw [hH8]; exact Kp.upd
        have t58 : KpT H5 H8 := (t56.trans t67).trans (KpT.of hM7 (fun xs z => by cases z) k78)
        refine ⟨R, vsA, r, r.toNat, .ref a, rfl, rfl, hR6, by omega, by omega, seqIndex_of r0 (by omega), ha1, M, vsB, _, rfl, rfl, by rw [← hH7]; exact hM7, szl (by omega), ?_⟩
        rw [← hH7, ← hH8]
        refine ⟨_, vsA.eraseIdx r.toNat, vsB ++ [.ref a], ra.eraseIdx r.toNat, rb ++ [e], rfl, (hd6.kp k67 pR).kp k78 pM, fun b o h n => ?_, k78 _ _ (by rw [hH7]; exact upd_same) RM, (hA5.erase _).kpt t58, by rw [hH8]; exact upd_same, (hB5.kpt t58).snoc (t58 _ _ ha2), ?_, by rw [List.length_append, hrb]; rfl⟩
        · exact k78 _ _ (k67 _ _ (k6 _ _ (f5 b o h n) n) fun z => by rw [z, nR] at h; cases h) fun z => by rw [z, MH] at h; cases h
        · have h1 := perm_erase he
          refine List.Perm.trans ?_ hperm
          rw [List.append_assoc]
          exact List.Perm.append_left rb h1.symm
      · rintro σ H5 ⟨y6, vsA, vsB, ra, rb, rfl, hd5, f5, hR5, hA5, hM5, hB5, hperm, hrb⟩
        have pl := hperm.length_eq
        rw [List.length_append] at pl
        have ra0 : ra = [] := List.length_eq_zero_iff.mp (by omega)
        subst ra0
        rw [List.append_nil] at hperm
        exact ⟨_, rfl, q _ _ rb f5 hd5 MH ⟨vsB, hM5, hB5⟩ (hrows.perm hperm.symm) (by omega) (by omega)⟩
end
end K34
set_option Elab.async false
set_option linter.all false
set_option maxRecDepth 100000
set_option maxHeartbeats 4000000
namespace K34
open PySem PySem.Spec PyProof.Rows L2 Tw Tk Lx
section
variable {P : Program} {w : World} {K : PySem.W.Frag} {mg : Str → Option Value} {base : Heap} {CT CI CL CM CX_ aL aN aF aP aT aK aNN aFN : Addr} {es : Array DictEntry} {en : Nat}
/-! ### _law_lines, _law_refusal, _law_languages -/
def spLinesL (K : PySem.W.Frag) : Sp := fun vs H Q _ => ∃ (m : Addr) (rows : List Ent), vs = [.ref m] ∧ RowsAt H m rows ∧ rows.length ≤ 1000 ∧ Short rows ∧ ∀ H' p, Same H H' → H p = none → Lines H' p rows → Q (.ref p) H'
abbrev s__law_lines : Stmt := topS 29
theorem sc__law_lines : FnScope ["rows", "part", "row"] ["rows"] (defScope s__law_lines) := ⟨rfl, rfl, rfl, by decide +kernel, rfl, by decide +kernel, by decide +kernel⟩
theorem ok_linesL {f : Addr} {fd : FuncData} (F : Fun K "_law_lines" "_law_lines" s__law_lines f fd) (T : Tx mg) : FnOk P w K mg base CX0 1 f fd ["rows"] (spLinesL K) := by
  refine F.ok sc__law_lines (fun vs H Q E h => ?_) (fun cdv A outer s H vs Q E hr h => ?_)
  · obtain ⟨m, rows, rfl, _⟩ := h
    rfl
  · obtain ⟨m, rows, rfl, hm, hrl, hsh, q⟩ := h
    refine ⟨_, (pss_one (ps_ret (pe_lc (own := [("row", 2)]) rfl sc__law_lines.nd (pi_list (pv 0)) (blkOk_by (own := [("row", 2)]) (N := ["rows", "part", "row"]) (sc := defScope s__law_lines) (by decide +kernel)) (fun _ _ _ _ _ => (pg_name (i := 2) sc__law_lines.nd rfl (.inl rfl))) (fun _ _ _ _ _ => pts_nil) (fun _ _ _ _ _ => (LX.pe_joinK (K := K) rfl pe_str (pe_lc (own := [("part", 1)]) rfl sc__law_lines.nd (LX.pi_tupK (K := K) rfl (pv 2)) (LX.blkOk_in (own := [("part", 1)]) (N := ["rows", "part", "row"]) (by decide +kernel)) (fun _ _ _ _ _ => (pg_name (i := 1) sc__law_lines.nd rfl (.inl rfl))) (fun _ _ _ _ _ => (pts_one (pt_cmpR op_notN (pv 1) pe_non (nomark _)))) (fun _ _ _ _ _ => (pv 1)))))))), ?_⟩
    obtain ⟨vs, ht, hen⟩ := hm
    refine ⟨_, rfl, m, rfl, ⟨_, .inl (.inl ht)⟩, fun D nD => ?_⟩
    refine lc_list (xs := vs) (fun i H' => Same H H' ∧ H' D = some (.lst (txt ((rows.take i).map lineOf)))) ⟨same_upd nD, upd_same⟩ ?_ ?_ ?_
    · rintro i H' _ ⟨z, _⟩
      exact .inl (.inl (z _ _ ht))
    · rintro i x H' hx ⟨z, hD⟩
      obtain ⟨r, p, rfl, hr, hp⟩ := hen.get hx
      refine ⟨rfl, parts_walk (i := 2) (j := 1) (r := r) (by decide) (by show 1 < 3; decide) rfl (z _ _ hp) (hsh.get hr) fun H2 s2 => ⟨_, s2 _ _ hD, ?_, same_mut (z.trans s2) nD, ?_⟩⟩
      · refine szl ?_
        unfold txt
        rw [List.length_map, List.length_map, List.length_take]
        omega
      · rw [upd_same, List.take_add_one, hr]
        unfold txt
        rw [List.map_append, List.map_append]
        rfl
    · rintro H' ⟨z, hD⟩
      rw [hen.1, List.take_length] at hD
      exact q _ _ z nD hD
def spRefusal (K : PySem.W.Frag) : Sp := fun vs H Q _ => ∃ (qa : Addr) (ls : List (List Nat)), vs = [.ref qa] ∧ H qa = some (.lst (txt ls)) ∧ (∀ l ∈ ls, l.length ≤ 5000) ∧ ls.length ≤ 100000 ∧
  (ls.length ≤ 40 → ∀ rows, Built [] ls rows → ∀ H', Same H H' → Q .non H') ∧
  (ls.length ≤ 40 → ∀ z k, Fails [] 1 ls z k → ∀ H' p, Same H H' → H p = none → H' p = some (.tup [tx z, .int (k : Nat)]) → Q (.ref p) H') ∧
  (40 < ls.length → ∀ H' p, Same H H' → H p = none → H' p = some (.tup [tx "lines", .int (ls.length : Nat), tx "many"]) → Q (.ref p) H')
theorem fresh_new {H : Hp} {x dx : Addr} {o1 o2 : HO} (h1 : H x = none) (h2 : H dx = none) : Same H (upd (upd H dx o1) x o2) := fun b o h => by
  rw [upd_ne (fun z => by rw [z, h1] at h; cases h), upd_ne (fun z => by rw [z, h2] at h; cases h)]
  exact h
abbrev s__law_refusal : Stmt := topS 30
theorem sc__law_refusal : FnScope ["lines", "error"] ["lines"] (defScope s__law_refusal) := ⟨rfl, rfl, rfl, by decide +kernel, rfl, by decide +kernel, by decide +kernel⟩
theorem ok_refusal {f C : Addr} {fd : FuncData} (F : Fun K "_law_refusal" "_law_refusal" s__law_refusal f fd) (T : Tx mg) (EX : Ex K mg CT CI CL CM) (K_Lexicon : LX.MakX P w K mg base 4 "Lexicon" C (spLex K C CL CM)) : FnOk P w K mg base CX0 6 f fd ["lines"] (spRefusal K) := by
  refine F.ok sc__law_refusal (fun vs H Q E h => ?_) (fun cdv A outer s H vs Q E hr h => ?_)
  · obtain ⟨qa, ls, rfl, _⟩ := h
    rfl
  · obtain ⟨qa, ls, rfl, hq, hll, hln, k1, k2, k3⟩ := h
    refine ⟨_, (pss_cons (ps_try_as (i := 1) rfl rfl sc__law_refusal.nd rfl rfl ⟨rfl, by decide, .inl EX.e_TellError.gC⟩ takes0 (fun W pn xe tk _ => (pss_one (ps_expr (LX.pe_mkX K_Lexicon hr (by omega) rfl (fun σ => passAt tk σ) (pa_cons (pv 0) pa_nil)))))
      (fun a oe cls d pn hz hf => (C8.pss_cut (ps_if (PW.pt (pw_and (pt_val (pe_callB (ExS.call_isX hz hf) rfl T.n_isinstance (by decide +kernel) (pa_cons (pv 1) (pa_cons (ExS.pe_err EX.e_InvalidLexicon rfl) pa_nil)))) (pw_and1 (pt_not (pt_val (pe_callB (LX.call_isXT hz hf) rfl T.n_isinstance (by decide +kernel) (pa_cons (pv 1) (pa_cons (pe_tup (pa_cons (ExS.pe_err EX.e_InvalidText rfl) (pa_cons (ExS.pe_err EX.e_TooMany rfl) pa_nil))) pa_nil))))))))
        (pss_one (ps_ret (pe_tup (pa_cons (pe_xf EX.e_InvalidLexicon.xf EX.no_InvalidLexicon_what hz hf (pv 1)) (pa_cons (pe_xf EX.e_InvalidLexicon.xf EX.no_InvalidLexicon_line hz hf (pv 1)) pa_nil)))))
        pss_nil)
      (pss_one (ps_ret (pe_ifExp (pt_val (pe_callB (ExS.call_isX hz hf) rfl T.n_isinstance (by decide +kernel) (pa_cons (pv 1) (pa_cons (ExS.pe_err EX.e_TooMany rfl) pa_nil)))) (pe_tup (pa_cons (pe_xf EX.e_TooMany.xf EX.no_TooMany_what hz hf (pv 1)) (pa_cons (pe_xf EX.e_TooMany.xf EX.no_TooMany_many hz hf (pv 1)) (pa_cons pe_str pa_nil)))) pe_str))))))
    (pss_one (ps_ret pe_non))), ?_⟩
    refine ⟨_, rfl, fun x dx nx ndx hne => ?_⟩
    have s0 : ∀ {o1 o2 : HO}, Same H (upd (upd H dx o1) x o2) := fresh_new nx ndx
    have frs : ∀ {o1 o2 : HO} {H' : Hp}, FrA x (upd (upd H dx o1) x o2) H' → Same H H' := fun f b o h => f _ _ (s0 _ _ h) fun z => by rw [z, nx] at h; cases h
    have qx : qa ≠ x := ne_of_none hq nx
    refine ⟨x, qa, dx, ls, rfl, upd_same, .inl (.inl (.inl (s0 _ _ hq))), qx, hll, hln, fun h40 rows b H' t d f _ _ _ => ⟨rfl, k1 h40 rows b H' (frs f)⟩, fun h40 z k fl d H1 f1 hd => ?_, fun h40 d H1 f1 hd => ?_⟩
    · have hdl : ∀ {H' : Hp}, Same H1 H' → H' d = some _ := fun s => s _ _ hd
      refine ⟨true, EX.e_InvalidLexicon.exm EX.e_TellError, fun _ a na => ?_, fun z => by cases z⟩
      refine ⟨fun _ _ => False, ?_, fun _ _ z => z.elim⟩
      refine ⟨_, rfl, CL, CL, d, _, true, rfl, rfl, rfl, hd, EX.e_InvalidLexicon.ec, EX.ll, _, rfl, iteT ⟨_, rfl, by show 2 ≤ sizeLine; decide, fun tp ntp => ?_⟩⟩
      have sp : Same H1 (upd H1 tp (.tup [.ref CI, .ref CM])) := same_upd ntp
      refine ⟨tp, CL, d, [.ref CI, .ref CM], [.ref CI, .ref CM], _, false, rfl, rfl, rfl, sp _ _ hd, upd_same, .cons (.own _) (.cons (.own _) .nil), EX.e_InvalidLexicon.ec, kitAny_cons EX.li (fun _ => kitAny_cons EX.lm (fun _ => rfl) (fun z => by cases z)) (fun z => by cases z), _, rfl, iteT ?_⟩
      refine ⟨_, rfl, rfl, rfl, d, _, _, rfl, sp _ _ hd, by rfl, _, rfl, rfl, rfl, d, _, _, rfl, sp _ _ hd, by rfl, by show 2 ≤ sizeLine; decide, fun p np => ?_⟩
      have sH : Same H _ := (frs f1).trans sp
      exact k2 h40 z k fl _ p (sH.trans (same_upd np)) (sH.free np) upd_same
    · refine ⟨true, EX.e_TooMany.exm EX.e_TellError, fun _ a na => ?_, fun z => by cases z⟩
      refine ⟨fun σ' H' => σ' = [some (.ref qa), some (.ref a)] ∧ H' = H1, ?_, ?_⟩
      · exact ⟨_, rfl, CL, CM, d, _, false, rfl, rfl, rfl, hd, EX.e_TooMany.ec, EX.ml, _, rfl, iteF ⟨rfl, rfl⟩⟩
      · rintro σ' H' ⟨rfl, rfl⟩
        refine ⟨_, rfl, CM, CM, d, _, true, rfl, rfl, rfl, hd, EX.e_TooMany.ec, EX.mm, _, rfl, iteT ?_⟩
        refine ⟨_, rfl, rfl, rfl, d, _, _, rfl, hd, by rfl, _, rfl, rfl, rfl, d, _, _, rfl, hd, by rfl, by show 3 ≤ sizeLine; decide, fun p np => ?_⟩
        exact k3 h40 _ p ((frs f1).trans (same_upd np)) ((frs f1).free np) upd_same
def tbLang (K : PySem.W.Frag) (CL : Addr) : TS := fun D σ H => tDrop (tCallS (spChk CL) (WE (wAs K (.ref CL) 2 (fun a cls d => tDrop (tBM K "list" rAppend (tVar 0) (tCons (tTup (tCons (tXf a cls d CL (PySem.Str.ofString "what") (tVar 2)) (tCons (tXf a cls d CL (PySem.Str.ofString "line") (tVar 2)) tNil))) tNil))) (fun _ _ _ _ => False) D)) (tCons (tVar 1) tNil)) D σ H
/-- four times the same -/
def spLangs : Sp := fun vs H Q _ => vs = [] ∧ ∀ H' p a1 a2 a3 a4, Same H H' → H' p = some (.lst [.ref a1, .ref a2, .ref a3, .ref a4]) → (∀ a ∈ [a1, a2, a3, a4], H' a = some (.tup [tx "language", .int 0])) → Q (.ref p) H'
abbrev s__law_languages : Stmt := topS 32
theorem sc__law_languages : FnScope ["found", "language", "error"] [] (defScope s__law_languages) := ⟨rfl, rfl, rfl, by decide +kernel, rfl, by decide +kernel, by decide +kernel⟩
theorem ok_langs {f : Addr} {fd : FuncData} (F : Fun K "_law_languages" "_law_languages" s__law_languages f fd) (T : Tx mg) (EX : Ex K mg CT CI CL CM) (C_check_language : ExS.CalX P w K mg base 3 "check_language" (spChk CL)) : FnOk P w K mg base CX0 4 f fd [] spLangs := by
  refine F.ok sc__law_languages (fun vs H Q E h => ?_) (fun cdv A outer s H vs Q E hr h => ?_)
  · obtain ⟨rfl, _⟩ := h
    rfl
  · obtain ⟨rfl, q⟩ := h
    refine ⟨_, (pss_cons (ps_set (i := 0) sc__law_languages.nd rfl (.inl rfl) (pe_lst pa_nil))
    (pss_cons (ps_for PassesOwn.never rfl (pi_tup (pe_tup (pa_cons pe_str (pa_cons pe_str (pa_cons pe_str (pa_cons pe_non pa_nil)))))) (pg_name (i := 1) sc__law_languages.nd rfl (.inl rfl))
      (pss_one (ps_try_as (i := 2) rfl rfl sc__law_languages.nd rfl rfl ⟨rfl, by decide, .inl EX.e_InvalidLexicon.gC⟩ takes0 (fun W pn xe tk _ => (pss_one (ps_expr (ExS.pe_cX C_check_language hr (by omega) rfl (fun σ => passAt tk σ) (pa_cons (pv 1) pa_nil)))))
        (fun a oe cls d pn hz hf => (pss_one (ps_expr (LX.pe_bmK (K := K) rfl PySem.F.plainAttrs_list PySem.F.slot_list_append PySem.F.type_list_append mt_append (pv 0) (pa_cons (pe_tup (pa_cons (pe_xf EX.e_InvalidLexicon.xf EX.no_InvalidLexicon_what hz hf (pv 2)) (pa_cons (pe_xf EX.e_InvalidLexicon.xf EX.no_InvalidLexicon_line hz hf (pv 2)) pa_nil))) pa_nil))))))))
    (pss_one (ps_ret (pv 0))))), ?_⟩
    refine ⟨Nat.zero_le _, fun R nR => ?_⟩
    have s0 : Same H (upd H R (.lst [])) := same_upd nR
    refine ⟨by show 4 ≤ sizeLine; decide, fun t nt => ⟨t, rfl, ⟨_, .inl (.inl upd_same)⟩, ?_⟩⟩
    generalize hG : upd (upd H R (.lst [])) t _ = Ht
    have ht : Ht t = some (.tup [tx "Near", tx "", tx "farr", .non]) := by rw [← hG]; exact upd_same
    have hR : Ht R = some (.lst []) := by rw [← hG]; exact same_upd nt _ _ upd_same
    have s1 : Same H Ht := by rw [← hG]; exact s0.trans (same_upd nt)
    have Rt : R ≠ t := fun z => by rw [z, ht] at hR; cases hR
    refine for_tup (tb := tbLang K CL) (xs := [tx "Near", tx "", tx "farr", .non]) (fun i σ H' => ∃ (y1 y2 : Option V) (as : List Addr), σ = [some (.ref R), y1, y2] ∧ Same H H' ∧ H' t = some (.tup [tx "Near", tx "", tx "farr", .non]) ∧ H' R = some (.lst (as.map V.ref)) ∧ as.length = i ∧ ∀ a ∈ as, H' a = some (.tup [tx "language", .int 0])) ?_ ?_ ?_ ?_
    · exact ⟨_, _, [], rfl, s1, ht, hR, rfl, fun a h => by simp at h⟩
    · rintro i σ H' _ ⟨_, _, _, _, _, h, _⟩
      exact .inl (.inl h)
    · rintro i x σ H' hx ⟨y1, y2, as, rfl, s2, ht2, hR2, hl, ha⟩
      have hxx : flatV x = true ∧ inV x langs = false := by
        match i, hx with
        | 0, hx => cases (show tx "Near" = x from Option.some.inj hx); exact ⟨rfl, by decide +kernel⟩
        | 1, hx => cases (show tx "" = x from Option.some.inj hx); exact ⟨rfl, by decide +kernel⟩
        | 2, hx => cases (show tx "farr" = x from Option.some.inj hx); exact ⟨rfl, by decide +kernel⟩
        | 3, hx => cases (show V.non = x from Option.some.inj hx); exact ⟨rfl, by decide +kernel⟩
        | i + 4, hx => simp at hx
      have hi : i < 4 := (List.getElem?_eq_some_iff.mp hx).1
      refine ⟨_, rfl, x, rfl, hxx.1, fun z => (by rw [hxx.2] at z; cases z), fun _ d H1 sd hd => ?_⟩
      refine ⟨true, EX.e_LL.exm EX.e_LL, fun _ a na => ?_, fun z => by cases z⟩
      refine ⟨_, rfl, .inl ⟨rfl, _, .inl (.inl (sd _ _ hR2))⟩, _, rfl, rfl, rfl, d, _, _, rfl, hd, by rfl, _, rfl, rfl, rfl, d, _, _, rfl, hd, by rfl, by show 2 ≤ sizeLine; decide, fun p np => ?_⟩
      have sp : Same H' _ := sd.trans (same_upd (o := HO.tup [tx "language", .int 0]) np)
      have hRp : R ≠ p := ne_of_none (sd _ _ hR2) np
      refine ⟨R, _, _, rfl, rfl, sp _ _ hR2, szl (by rw [List.length_map]; omega), ?_⟩
      refine ⟨_, _, as ++ [p], rfl, ?_, ?_, ?_, by rw [List.length_append, hl]; rfl, ?_⟩
      · intro b o h
        rw [upd_ne (fun z => by rw [z, nR] at h; cases h)]
        exact sp _ _ (s2 _ _ h)
      · rw [upd_ne (Ne.symm Rt)]
        exact sp _ _ ht2
      · rw [upd_same, List.map_append]
        rfl
      · intro b hb
        have hb' : H1 b = some (.tup [tx "language", .int 0]) ∨ b = p := by
          rcases List.mem_append.mp hb with hb | hb
          · exact .inl (sd _ _ (ha b hb))
          · exact .inr (List.mem_singleton.mp hb)
        rcases hb' with hb' | rfl
        · rw [upd_ne (fun z => by rw [z, sd _ _ hR2] at hb'; cases hb')]
          exact same_upd np _ _ hb'
        · rw [upd_ne (Ne.symm hRp)]
          exact upd_same
    · rintro σ H' ⟨y1, y2, as, rfl, s2, ht2, hR2, hl, ha⟩
      match as, hl, hR2, ha with
      | [a1, a2, a3, a4], _, hR2, ha => exact ⟨_, rfl, q _ R a1 a2 a3 a4 s2 hR2 ha⟩
end
end K34
set_option Elab.async false
set_option linter.all false
set_option maxRecDepth 100000
set_option maxHeartbeats 4000000
namespace K34
open PySem PySem.Spec PyProof.Rows L2 Tw Tk Lx
section
variable {P : Program} {w : World} {K : PySem.W.Frag} {mg : Str → Option Value} {base : Heap} {CT CI CL CM CX_ aL aN aF aP aT aK aNN aFN : Addr} {es : Array DictEntry} {en : Nat}
/-! ### _law_wrong -/
def spWrong : Sp := fun vs H Q _ => ∃ (p m : Addr) (at_ : Nat) (rows : List Ent), vs = [.ref p, .ref m, .int (at_ : Nat)] ∧ Deck H p ∧ RowsAt H m rows ∧ Rows rows ∧ rows.length ≤ 100 ∧ at_ < rows.length ∧
  ∀ H' q why text, Kp p H H' → Deck H' p → H q = none → H' q = some (.tup [.str (S text), tx why]) → text.length ≤ 300 → Add (rows.take at_) text none why → Q (.ref q) H'
abbrev s__law_wrong : Stmt := topS 31
theorem sc__law_wrong : FnScope ["deck", "rows", "at", "kind", "near", "far", "person", "way", "forms", "word", "earlier", "row", "one", "words"] ["deck", "rows", "at"] (defScope s__law_wrong) := ⟨rfl, rfl, rfl, by decide +kernel, rfl, by decide +kernel, by decide +kernel⟩
theorem ok_wrong {f : Addr} {fd : FuncData} (F : Fun K "_law_wrong" "_law_wrong" s__law_wrong f fd) (T : Tx mg) (CN : Cn K w mg aL aN aF aP aT aK aNN aFN es en) (C__law_take : C8.Cal P w K mg base 1 "_law_take" spTake []) (C_closed_words : ExS.CalX P w K mg base 4 "closed_words" (spClosed aN aF)) : FnOk P w K mg base CX0 5 f fd ["deck", "rows", "at"] spWrong := by
  refine F.ok sc__law_wrong (fun vs H Q E h => ?_) (fun cdv A outer s H vs Q E hr h => ?_)
  · obtain ⟨p, m, at_, rows, rfl, _⟩ := h
    rfl
  · obtain ⟨p, m, at_, rows, rfl, hd, hm, hrows, hl, hat, q⟩ := h
    refine ⟨_, (pss_cons (ps_asg (pe_ix ix_list (pv 1) (pv 2) (fun _ _ => rfl)) (pg_tup rfl (pgs_cons (pg_name (i := 3) sc__law_wrong.nd rfl (.inr rfl)) (pgs_cons (pg_name (i := 4) sc__law_wrong.nd rfl (.inl rfl)) (pgs_cons (pg_name (i := 5) sc__law_wrong.nd rfl (.inl rfl)) (pgs_cons (pg_name (i := 6) sc__law_wrong.nd rfl (.inl rfl)) pgs_nil))))))
    (pss_cons (ps_set (i := 7) sc__law_wrong.nd rfl (.inl rfl) (C8.pe_c C__law_take hr (by omega) rfl (pa_cons (pv 0) (pa_cons pe_int pa_nil))))
    (pss_cons (ps_set (i := 8) sc__law_wrong.nd rfl (.inl rfl) (pe_lst (pa_cons (pe_op op_add_str (pe_op op_add_str (pv 3) pe_str) (pv 4)) (pa_cons pe_str (pa_cons pe_str (pa_cons pe_str (pa_cons pe_str (pa_cons pe_str (pa_cons pe_str (pa_cons pe_str pa_nil))))))))))
    (pss_cons (ps_set (i := 8) sc__law_wrong.nd rfl (.inl rfl) (pe_op op_cat (pv 8) (pe_lst (pa_cons (pe_op op_add_str (pe_op op_add_str pe_str (pe_op op_mul_str pe_str pe_int)) pe_str) (pa_cons pe_str (pa_cons pe_str pa_nil))))))
    (pss_cons (ps_if (pt_cmpR op_lt (pv 7) (pe_callB call_len_seq rfl T.n_len (by decide +kernel) (pa_cons (pv 8) pa_nil)) (nomark _))
      (pss_one (ps_ret (pe_tup (pa_cons (pe_ix ix_list (pv 8) (pv 7) (fun _ _ => rfl)) (pa_cons pe_str pa_nil)))))
      pss_nil)
    (pss_cons (ps_if (pt_cmpR op_eq (pv 7) pe_int (nomark _))
      (pss_cons (ps_set (i := 9) sc__law_wrong.nd rfl (.inl rfl) (pe_ix ix_tup (ExS.pe_cX C_closed_words hr (by omega) rfl ExS.pass0S (pa_cons pe_str pa_nil)) (C8.pe_c C__law_take hr (by omega) rfl (pa_cons (pv 0) (pa_cons (pe_callB call_len_seq rfl T.n_len (by decide +kernel) (pa_cons (ExS.pe_cX C_closed_words hr (by omega) rfl ExS.pass0S (pa_cons pe_str pa_nil)) pa_nil)) pa_nil))) (fun _ _ => rfl)))
      (pss_one (ps_ret (pe_tup (pa_cons (pe_op op_add_str (pe_op op_add_str pe_str (pv 9)) pe_str) (pa_cons pe_str pa_nil))))))
      pss_nil)
    (pss_cons (ps_if (pt_cmpR op_eq (pv 7) pe_int (nomark _))
      (pss_cons (ps_set (i := 9) sc__law_wrong.nd rfl (.inl rfl) (pe_ix ix_tup (ExS.pe_cX C_closed_words hr (by omega) rfl ExS.pass0S (pa_cons pe_str pa_nil)) (C8.pe_c C__law_take hr (by omega) rfl (pa_cons (pv 0) (pa_cons (pe_callB call_len_seq rfl T.n_len (by decide +kernel) (pa_cons (ExS.pe_cX C_closed_words hr (by omega) rfl ExS.pass0S (pa_cons pe_str pa_nil)) pa_nil)) pa_nil))) (fun _ _ => rfl)))
      (pss_one (ps_ret (pe_tup (pa_cons (pe_op op_add_str pe_str (pv 9)) (pa_cons pe_str pa_nil))))))
      pss_nil)
    (pss_cons (ps_setLc (i := 10) (own := [("row", 11)]) rfl sc__law_wrong.nd rfl rfl (sw_true rfl rfl rfl (by decide +kernel)) (pi_list (pe_slice (show SlR _ (rSlL K) from sl_list) (pv 1) po_none (po_some (pv 2)))) (blkOk_by (own := [("row", 11)]) (N := ["deck", "rows", "at", "kind", "near", "far", "person", "way", "forms", "word", "earlier", "row", "one", "words"]) (sc := defScope s__law_wrong) (by decide +kernel)) (fun _ _ _ _ _ => (pg_name (i := 11) sc__law_wrong.nd rfl (.inl rfl))) (fun _ _ _ _ _ => (pts_one (pt_cmpR op_eq (pe_ix (show IxR _ (rIxT K) from ix_tup) (pv 11) pe_int (fun _ _ => rfl)) (pv 3) (nomark _)))) (fun _ _ _ _ _ => (pv 11)))
    (pss_cons (ps_if (pt_cmpR op_eq (pe_callB call_len_seq rfl T.n_len (by decide +kernel) (pa_cons (pv 10) pa_nil)) pe_int (nomark _))
      (pss_one (ps_ret (pe_tup (pa_cons pe_str (pa_cons pe_str pa_nil)))))
      pss_nil)
    (pss_cons (ps_set (i := 12) sc__law_wrong.nd rfl (.inl rfl) (pe_ix ix_list (pv 10) (C8.pe_c C__law_take hr (by omega) rfl (pa_cons (pv 0) (pa_cons (pe_callB call_len_seq rfl T.n_len (by decide +kernel) (pa_cons (pv 10) pa_nil)) pa_nil))) (fun _ _ => rfl)))
    (pss_cons (ps_set (i := 13) sc__law_wrong.nd rfl (.inl rfl) (pe_ifExp (pt_cmpR op_eq (C8.pe_c C__law_take hr (by omega) rfl (pa_cons (pv 0) (pa_cons pe_int pa_nil))) pe_int (nomark _)) (pe_lst (pa_cons (pe_ix ix_tup (pv 12) pe_int (fun _ _ => rfl)) (pa_cons pe_str pa_nil))) (pe_lst (pa_cons pe_str (pa_cons (pe_ix ix_tup (pv 12) pe_int (fun _ _ => rfl)) pa_nil)))))
    (pss_one (ps_ret (pe_tup (pa_cons (pe_join pe_str (pe_op op_cat (pe_op op_cat (pe_lst (pa_cons (pv 3) pa_nil)) (pv 13)) (pe_ifExp (pt_cmpR op_notN (pv 6) pe_non (nomark _)) (pe_lst (pa_cons (pv 6) pa_nil)) (pe_lst pa_nil)))) (pa_cons pe_str pa_nil)))))))))))))))), ?_⟩
    obtain ⟨vs, hvs, hen⟩ := hm
    obtain ⟨r, hr⟩ : ∃ r, rows[at_]? = some r := ⟨_, List.getElem?_eq_getElem hat⟩
    obtain ⟨a, ha1, ha2⟩ := hen.2 _ _ hr
    have hall : r ∈ allRows := hrows.all r (List.mem_of_getElem? hr)
    refine ⟨_, rfl, _, rfl, m, vs, (at_ : Nat), .ref a, rfl, rfl, .inl (.inl hvs), atI_ofNat (by omega) (by simpa using ha1), ?_⟩
    refine ⟨a, _, rfl, .inl (.inl ha2), rfl, _, _, rfl, _, _, rfl, _, _, rfl, _, _, rfl, rfl, ?_⟩
    -- way
    refine ⟨_, rfl, p, 14, rfl, by decide, hd, fun H1 wy k1 hd1 w0 w1 => ?_⟩
    obtain ⟨n, rfl⟩ : ∃ n : Nat, wy = (n : Int) := ⟨wy.toNat, by omega⟩
    have lk : (S r.k).length ≤ 12 := by rw [S_len]; exact (all_fit r hall).2.2.2.2.1
    have ln : (S r.n).length ≤ 12 := by rw [S_len]; exact (all_fit r hall).2.2.2.2.2.1
    refine ⟨_, rfl, S r.k, _, rfl, rfl, szL (by show (S r.k).length + 1 ≤ 100000; omega), _, rfl, _, S r.n, rfl, rfl, szL (by rw [Str.length_append]; show (S r.k).length + 1 + _ ≤ 100000; omega), by show 8 ≤ sizeLine; decide, fun l1 n1 => ?_⟩
    refine ⟨_, rfl, 99, 13, rfl, rfl, by decide, by decide, _, _, rfl, rfl, by decide +kernel, _, _, rfl, rfl, by decide +kernel, by show 3 ≤ sizeLine; decide, fun l2 n2 => ?_⟩
    refine ⟨l1, l2, _, _, rfl, rfl, same_upd n2 _ _ upd_same, upd_same, by show 11 ≤ sizeLine; decide, fun l3 n3 => ?_⟩
    generalize hG : upd (upd (upd H1 l1 _) l2 _) l3 _ = H2
    have hforms : H2 l3 = some (.lst (V.str (S (r.k ++ 32 :: r.n)) :: badForms.map tx)) := by
      rw [← hG, upd_same]
      have e : (S r.k ++ PySem.Str.ofString " ") ++ S r.n = S (r.k ++ 32 :: r.n) := by
        rw [show PySem.Str.ofString " " = S [32] from rfl, S_add, S_add]
        simp
      rw [e]
      rfl
    have s12 : Same H1 H2 := by
      rw [← hG]
      exact ((same_upd n1).trans (same_upd n2)).trans (same_upd n3)
    clear hG
    -- if way < len(forms)
    refine ⟨_, rfl, _, rfl, l3, _, rfl, .inl (.inl (.inl hforms)), _, _, rfl, rfl, _, rfl, ?_⟩
    have kH : ∀ {H' : Hp}, Same H1 H' → Kp p H H' := fun s b o h n => s _ _ (k1 _ _ h n)
    have done : ∀ {H' : Hp} {t : Addr} {why : String} {text : List Nat}, Kp p H H' → Deck H' p → H' t = none → text.length ≤ 300 → Add (rows.take at_) text none why → Q (.ref t) (upd H' t (.tup [.str (S text), tx why])) := fun {H' t why text} k d nt tl ad =>
      q _ t why text (fun b o h n => same_upd nt _ _ (k _ _ h n)) (d.same (same_upd nt)) (by
        cases e : H t with
        | none => rfl
        | some o =>
          by_cases z : t = p
          · obtain ⟨ds, e1, _⟩ := d
            rw [z, e1] at nt
            cases nt
          · rw [k _ _ e z] at nt
            cases nt) upd_same tl ad
    by_cases h11 : n < 11
    · rw [show decide (((n : Nat) : Int) < _) = true from decide_eq_true (by show (n : Int) < 11; omega)]
      obtain ⟨text, ht1, ht2, ht3⟩ : ∃ text, (V.str (S (r.k ++ 32 :: r.n)) :: badForms.map tx)[n]? = some (.str (S text)) ∧ entryOf text = none ∧ text.length ≤ 300 := by
        cases n with
        | zero =>
          refine ⟨_, rfl, short_fit r hall, ?_⟩
          rw [S_len] at lk ln
          rw [List.length_append, List.length_cons]
          omega
        | succ n =>
          have hn : n < badForms.length := by show n < 10; omega
          have hg : badForms[n]? = some badForms[n] := List.getElem?_eq_getElem hn
          have hmem : badForms[n] ∈ badForms := List.getElem_mem _
          refine ⟨sN badForms[n], ?_, badForms_fit _ hmem, (by decide +kernel : ∀ s ∈ badForms, (sN s).length ≤ 300) _ hmem⟩
          rw [List.getElem?_cons_succ, List.getElem?_map, hg]
          show some (tx _) = _
          unfold tx
          rw [S_sN]
      exact iteT ⟨_, rfl, _, rfl, l3, _, (n : Nat), .str (S text), rfl, rfl, .inl (.inl hforms), atI_ofNat (by omega) (by simpa using ht1), by show 2 ≤ sizeLine; decide, fun t nt => done (kH s12) (hd1.same s12) nt ht3 (.form ht2)⟩
    · rw [show decide (((n : Nat) : Int) < _) = false from decide_eq_false (by show ¬ (n : Int) < 11; omega)]
      refine iteF ?_
      -- way == 11
      refine ⟨_, rfl, rfl, _, rfl, ?_⟩
      by_cases e11 : n = 11
      · subst e11
        rw [show decide (V.int ((11 : Nat) : Int) = V.int 11) = true from rfl]
        have hd2 := hd1.same s12
        refine iteT ⟨true, rfl, _, rfl, true, rfl, aN, _, rfl, .inr (CN.t_NEAR_CLOSED.sq _), p, _, rfl, by decide, hd2, fun H3 rr k3 hd3 r0 r1 => ?_⟩
        have hlt : rr.toNat < nearClosed.length := by
          have r1' : rr < ((nearClosed.map tx).length : Nat) := r1
          rw [List.length_map] at r1'
          omega
        have hg : nearClosed[rr.toNat]? = some nearClosed[rr.toNat] := List.getElem?_eq_getElem hlt
        obtain ⟨ws, hws⟩ : ∃ ws, ws = nearClosed[rr.toNat] := ⟨_, rfl⟩
        rw [← hws] at hg
        have hmem : sN ws ∈ nearC := List.mem_map_of_mem (List.mem_of_getElem? hg)
        obtain ⟨f1, f2⟩ := near_fit _ hmem
        have lw : (S (sN ws)).length ≤ 20 := by rw [S_len]; exact f2
        refine ⟨aN, _, rr, .str (S (sN ws)), rfl, rfl, CN.t_NEAR_CLOSED.sq _, atI_ofNat r0 (by rw [List.getElem?_map, hg]; show some (tx ws) = _; unfold tx; rw [S_sN]), ?_⟩
        refine ⟨_, rfl, _, _, rfl, rfl, szL (by show 5 + _ ≤ 100000; omega), _, _, rfl, rfl, szL (by rw [Str.length_append]; show 5 + _ + 4 ≤ 100000; omega), by show 2 ≤ sizeLine; decide, fun t nt => ?_⟩
        have e : (PySem.Str.ofString "noun " ++ S (sN ws)) ++ PySem.Str.ofString " zzz" = S (sN "noun " ++ sN ws ++ sN " zzz") := by
          rw [S_sN "noun ", S_sN " zzz", S_add, S_add]
        rw [e]
        exact done (fun b o h n => k3 _ _ (kH s12 _ _ h n) n) hd3 nt (by rw [List.length_append, List.length_append]; show 5 + _ + 4 ≤ 300; omega) (isClosed_of f1)
      · rw [show decide (V.int ((n : Nat) : Int) = V.int 11) = false from decide_eq_false fun z => by injection z with z; omega]
        refine iteF ⟨_, rfl, rfl, _, rfl, ?_⟩
        by_cases e12 : n = 12
        · subst e12
          rw [show decide (V.int ((12 : Nat) : Int) = V.int 12) = true from rfl]
          have hd2 := hd1.same s12
          refine iteT ⟨false, rfl, _, rfl, false, rfl, aF, _, rfl, .inr (CN.t_FAR_CLOSED.sq _), p, _, rfl, by decide, hd2, fun H3 rr k3 hd3 r0 r1 => ?_⟩
          have hlt : rr.toNat < farClosed.length := by
            have r1' : rr < ((farClosed.map tx).length : Nat) := r1
            rw [List.length_map] at r1'
            omega
          have hg : farClosed[rr.toNat]? = some farClosed[rr.toNat] := List.getElem?_eq_getElem hlt
          obtain ⟨ws, hws⟩ : ∃ ws, ws = farClosed[rr.toNat] := ⟨_, rfl⟩
          rw [← hws] at hg
          have hmem : sN ws ∈ farC := List.mem_map_of_mem (List.mem_of_getElem? hg)
          obtain ⟨f1, f2⟩ := far_fit _ hmem
          have lw : (S (sN ws)).length ≤ 20 := by rw [S_len]; exact f2
          refine ⟨aF, _, rr, .str (S (sN ws)), rfl, rfl, CN.t_FAR_CLOSED.sq _, atI_ofNat r0 (by rw [List.getElem?_map, hg]; show some (tx ws) = _; unfold tx; rw [S_sN]), ?_⟩
          refine ⟨_, rfl, _, _, rfl, rfl, szL (by show 9 + _ ≤ 100000; omega), by show 2 ≤ sizeLine; decide, fun t nt => ?_⟩
          have e : PySem.Str.ofString "verb zzz " ++ S (sN ws) = S (sN "verb zzz " ++ sN ws) := by
            rw [S_sN "verb zzz ", S_add]
          rw [e]
          exact done (fun b o h n => k3 _ _ (kH s12 _ _ h n) n) hd3 nt (by rw [List.length_append]; show 9 + _ ≤ 300; omega) (isClosed_of f1)
        · rw [show decide (V.int ((n : Nat) : Int) = V.int 12) = false from decide_eq_false fun z => by injection z with z; omega]
          refine iteF ?_
          have hd2 := hd1.same s12
          have pm : m ≠ p := fun z => by
            obtain ⟨ds, e1, _⟩ := id hd
            rw [z, e1] at hvs
            injection hvs with hvs
            injection hvs with hvs
            rw [← hvs, List.getElem?_map] at ha1
            cases e : ds[at_]? with
            | none => rw [e] at ha1; cases ha1
            | some d => rw [e] at ha1; cases ha1
          have hm2 : H2 m = some (.lst vs) := s12 _ _ (k1 _ _ hvs pm)
          refine ⟨_, rfl, _, rfl, _, rfl, m, vs, rfl, .inl (.inl hm2), fun B nB => ⟨B, rfl, ⟨_, .inl (.inl upd_same)⟩, fun D nD => ?_⟩⟩
          have ecut : cutV vs none (some (at_ : Int)) = vs.take at_ := by
            unfold cutV
            rw [HT.sIx_none, HT.sIx_nat, List.drop_zero, Nat.sub_zero]
            rcases Nat.le_total at_ vs.length with h | h
            · rw [Nat.min_eq_left h]
            · rw [Nat.min_eq_right h, List.take_length, List.take_of_length_le h]
          rw [ecut] at nD ⊢
          have hen2 : Ents H2 vs rows := by
            obtain ⟨ds, e1, _⟩ := id hd
            exact (hen.kpt (KpT.of e1 (fun xs z => by cases z) k1)).same s12
          generalize hB : upd H2 B (.lst (vs.take at_)) = Hb at nD ⊢
          have s2b : Same H2 Hb := by rw [← hB]; exact same_upd nB
          have hBb : Hb B = some (.lst (vs.take at_)) := by rw [← hB]; exact upd_same
          refine lc_list (xs := vs.take at_) (fun i H' => Same Hb H' ∧ ∃ os : List (Addr × Ent), H' D = some (.lst (os.map fun o => V.ref o.1)) ∧ os.length ≤ i ∧ ∀ o ∈ os, Hb o.1 = some (.tup (rowV o.2)) ∧ o.2.k = r.k ∧ ∃ i : Nat, (rows.take at_)[i]? = some o.2) ⟨same_upd nD, [], upd_same, Nat.le_refl _, fun o h => by simp at h⟩ ?_ ?_ ?_
          · rintro i H' _ ⟨z, _⟩
            exact .inl (.inl (z _ _ hBb))
          · rintro i x H' hx ⟨z, os, hD, hos, hall2⟩
            have hi : i < at_ := by
              have := (List.getElem?_eq_some_iff.mp hx).1
              rw [List.length_take] at this
              omega
            rw [List.getElem?_take_of_lt hi] at hx
            obtain ⟨o, b, rfl, ho1, ho2⟩ := hen2.get hx
            have hob : Hb b = some (.tup (rowV o)) := s2b _ _ ho2
            refine ⟨rfl, _, rfl, b, _, 0, .str (S o.k), rfl, rfl, .inl (.inl (z _ _ hob)), atI_ofNat (by decide) rfl, _, rfl, rfl, _, rfl, ?_⟩
            by_cases ek : o.k = r.k
            · rw [show decide (V.str (S o.k) = V.str (S r.k)) = true from decide_eq_true (by rw [ek])]
              refine ⟨_, rfl, _, hD, szl (by rw [List.length_map]; omega), same_mut z nD, os ++ [(b, o)], ?_, by rw [List.length_append]; exact Nat.succ_le_succ hos, fun o' ho' => ?_⟩
              · rw [upd_same, List.map_append]; rfl
              · rcases List.mem_append.mp ho' with ho' | ho'
                · exact hall2 o' ho'
                · rw [List.mem_singleton.mp ho']
                  exact ⟨hob, ek, i, by rw [List.getElem?_take_of_lt hi]; exact ho1⟩
            · rw [show decide (V.str (S o.k) = V.str (S r.k)) = false from decide_eq_false fun z => ek (by injection z with z; exact S_inj.mp z)]
              exact ⟨z, os, hD, by omega, hall2⟩
          · rintro H3 ⟨z, os, hD, hos, hall2⟩
            have up3 : ∀ {b : Addr} {o : HO}, H2 b = some o → H3 b = some o := fun h => z _ _ (s2b _ _ h)
            have s23 : Same H2 H3 := s2b.trans z
            have hd3 := hd2.same s23
            have kH3 : Kp p H H3 := kH (s12.trans s23)
            refine ⟨_, rfl, D, _, rfl, .inl (.inl (.inl hD)), rfl, _, rfl, ?_⟩
            rw [List.length_map]
            cases os with
            | nil =>
              rw [show decide (V.int (([] : List (Addr × Ent)).length : Nat) = V.int 0) = true from rfl]
              refine iteT ⟨by show 2 ≤ sizeLine; decide, fun t nt => ?_⟩
              rw [show PySem.Str.ofString "noun every kai" = S (sN "noun every kai") from S_sN _]
              exact done kH3 hd3 nt (by decide) (isClosed_of every_fit)
            | cons o1 os =>
              rw [show decide (V.int ((o1 :: os).length : Nat) = V.int 0) = false from decide_eq_false fun z => by injection z with z; rw [List.length_cons] at z; omega]
              refine iteF ⟨_, rfl, _, rfl, _, rfl, D, _, rfl, .inl (.inl (.inl hD)), p, _, rfl, by rw [List.length_map, List.length_cons]; omega, hd3, fun H4 rr k4 hd4 r0 r1 => ?_⟩
              have Dp' : D ≠ p := fun e => by
                obtain ⟨ds, e1, _⟩ := id hd2
                rw [e, s2b _ _ e1] at nD
                cases nD
              have hD4 := k4 _ _ hD Dp'
              have hlt : rr.toNat < (o1 :: os).length := by rw [List.length_map] at r1; omega
              obtain ⟨o, ho⟩ : ∃ o, (o1 :: os)[rr.toNat]? = some o := ⟨_, List.getElem?_eq_getElem hlt⟩
              obtain ⟨g1, g2, gi, g3⟩ := hall2 o (List.mem_of_getElem? ho)
              have notp : ∀ {b : Addr} {xs : List V}, Hb b = some (.tup xs) → b ≠ p := fun {b xs} h e => by
                obtain ⟨ds, e1, _⟩ := id hd2
                rw [e, s2b _ _ e1] at h
                cases h
              have g4 : H4 o.1 = some (.tup (rowV o.2)) := k4 _ _ (z _ _ g1) (notp g1)
              have ho2 : o.2 ∈ allRows := (hrows.take at_).all _ (List.mem_of_getElem? g3)
              refine ⟨D, _, rr, .ref o.1, rfl, rfl, .inl (.inl hD4), atI_ofNat r0 (by rw [List.getElem?_map, ho]; rfl), ?_⟩
              refine ⟨_, rfl, p, 2, rfl, by decide, hd4, fun H5 w2 k5 hd5 _ _ => ⟨rfl, _, rfl, ?_⟩⟩
              have g5 : H5 o.1 = some (.tup (rowV o.2)) := k5 _ _ g4 (notp g1)
              have kH5 : Kp p H H5 := fun b u h n => k5 _ _ (k4 _ _ (kH3 _ _ h n) n) n
              have lr := (all_fit r hall).2.2.2.2
              have lo := (all_fit o.2 ho2).2.2.2.2
              by_cases hw2 : w2 = 0
              · rw [show decide (V.int w2 = V.int 0) = true from decide_eq_true (by rw [hw2])]
                refine iteT ⟨_, rfl, o.1, _, 1, .str (S o.2.n), rfl, rfl, .inl (.inl g5), atI_ofNat (by decide) rfl, by show 2 ≤ sizeLine; decide, fun W nW => ?_⟩
                refine ⟨⟨_, rfl⟩, _, rfl, by show 1 ≤ sizeLine; decide, fun L1 nL1 => ?_⟩
                obtain ⟨H6, hH6⟩ : ∃ H6, H6 = upd H5 W (.lst [V.str (S o.2.n), V.str (PySem.Str.ofString "zzzz")]) := ⟨_, rfl⟩
                have s56 : Same H5 H6 := by rw [hH6]; exact same_upd nW
                have hW : H6 W = some (.lst [V.str (S o.2.n), V.str (PySem.Str.ofString "zzzz")]) := by rw [hH6]; exact upd_same
                change upd H5 W (.lst [V.str (S o.2.n), V.str (PySem.Str.ofString "zzzz")]) L1 = none at nL1
                rw [← hH6] at nL1
                refine ⟨_, rfl, L1, W, _, [V.str (S o.2.n), V.str (PySem.Str.ofString "zzzz")], rfl, rfl, upd_same, ?_⟩
                change upd (upd H5 W (.lst [V.str (S o.2.n), V.str (PySem.Str.ofString "zzzz")])) L1 _ W = _ ∧ _
                rw [← hH6]
                refine ⟨same_upd nL1 _ _ hW, by show 1 + 2 ≤ sizeLine; decide, fun L2 nL2 => ⟨_, rfl, rfl, _, rfl, ?_⟩⟩
                have s6b := (same_upd nL1 (o := .lst [V.str (S r.k)])).trans (same_upd nL2 (o := .lst ([V.str (S r.k)] ++ [V.str (S o.2.n), V.str (PySem.Str.ofString "zzzz")])))
                generalize hH7 : upd (upd H6 L1 _) L2 _ = H7 at s6b ⊢
                have hL2 : H7 L2 = some (.lst [V.str (S r.k), V.str (S o.2.n), V.str (PySem.Str.ofString "zzzz")]) := by rw [← hH7]; exact upd_same
                cases hp : r.p with
                | none =>
                  rw [show (!decide (pV none = V.non)) = false from rfl]
                  refine iteF ⟨Nat.zero_le _, fun L3 nL3 => ?_⟩
                  refine ⟨L2, L3, _, _, rfl, rfl, same_upd nL3 _ _ hL2, upd_same, by show 3 + 0 ≤ sizeLine; decide, fun J nJ => ?_⟩
                  refine ⟨_, J, [S r.k, S o.2.n, PySem.Str.ofString "zzzz"], rfl, rfl, .inl (.inl (.inl upd_same)), ?_, by show 2 ≤ sizeLine; decide, fun t nt => ?_⟩
                  · show ((S r.k).length + ((S (o.2.n)).length + ((S (sN "zzzz")).length + 0))) + 3 * 1 ≤ 16777216
                    rw [S_len, S_len, S_len]
                    have := lr.1; have := lo.1; have := lo.2.1; have := lo.2.2.1
                    have : (sN "zzzz").length = 4 := rfl
                    omega
                  · rw [show Txt.join (PySem.Str.ofString " ") [S r.k, S o.2.n, PySem.Str.ofString "zzzz"] = S (joinC 32 (r.k :: o.2.n :: sN "zzzz" :: r.p.toList)) from by rw [hp]; exact join_parts 32 [r.k, o.2.n, sN "zzzz"]] at *
                    have sfin : Same H5 _ := (s56.trans s6b).trans ((same_upd nL3).trans (same_upd nJ (o := .lst ([V.str (S r.k), V.str (S o.2.n), V.str (PySem.Str.ofString "zzzz")] ++ []))))
                    exact done (fun b u h n => sfin _ _ (kH5 _ _ h n)) (hd5.same sfin) nt (by
                      show (joinC 32 _).length ≤ 300
                      rw [hp]
                      show (r.k ++ 32 :: (o.2.n ++ 32 :: sN "zzzz")).length ≤ 300
                      have := lr.1; have := lo.1; have := lo.2.1; have := lo.2.2.1
                      have : (sN "zzzz").length = 4 := rfl
                      rw [List.length_append, List.length_cons, List.length_append, List.length_cons]
                      omega) (twiceN_add hall ho2 g2.symm g3)
                | some pp =>
                  have lp : pp.length ≤ 12 := lr.2.2.2.1 pp (by rw [hp]; simp)
                  rw [show (!decide (pV (some pp) = V.non)) = true from rfl]
                  refine iteT ⟨_, rfl, by show 1 ≤ sizeLine; decide, fun L3 nL3 => ?_⟩
                  refine ⟨L2, L3, _, _, rfl, rfl, same_upd nL3 _ _ hL2, upd_same, by show 3 + 1 ≤ sizeLine; decide, fun J nJ => ?_⟩
                  refine ⟨_, J, [S r.k, S o.2.n, PySem.Str.ofString "zzzz", S pp], rfl, rfl, .inl (.inl (.inl upd_same)), ?_, by show 2 ≤ sizeLine; decide, fun t nt => ?_⟩
                  · show ((S r.k).length + ((S (o.2.n)).length + ((S (sN "zzzz")).length + ((S pp).length + 0)))) + 4 * 1 ≤ 16777216
                    rw [S_len, S_len, S_len, S_len]
                    have := lr.1; have := lo.1; have := lo.2.1; have := lo.2.2.1
                    have : (sN "zzzz").length = 4 := rfl
                    omega
                  · rw [show Txt.join (PySem.Str.ofString " ") [S r.k, S o.2.n, PySem.Str.ofString "zzzz", S pp] = S (joinC 32 (r.k :: o.2.n :: sN "zzzz" :: r.p.toList)) from by rw [hp]; exact join_parts 32 [r.k, o.2.n, sN "zzzz", pp]] at *
                    have sfin : Same H5 _ := (s56.trans s6b).trans ((same_upd nL3 (o := .lst [V.str (S pp)])).trans (same_upd nJ (o := .lst ([V.str (S r.k), V.str (S o.2.n), V.str (PySem.Str.ofString "zzzz")] ++ [V.str (S pp)]))))
                    exact done (fun b u h n => sfin _ _ (kH5 _ _ h n)) (hd5.same sfin) nt (by
                      show (joinC 32 _).length ≤ 300
                      rw [hp]
                      show (r.k ++ 32 :: (o.2.n ++ 32 :: (sN "zzzz" ++ 32 :: pp))).length ≤ 300
                      have := lr.1; have := lo.1; have := lo.2.1; have := lo.2.2.1
                      have : (sN "zzzz").length = 4 := rfl
                      rw [List.length_append, List.length_cons, List.length_append, List.length_cons, List.length_append, List.length_cons]
                      omega) (twiceN_add hall ho2 g2.symm g3)
              · rw [show decide (V.int w2 = V.int 0) = false from decide_eq_false fun z => hw2 (by injection z)]
                refine iteF ⟨_, rfl, o.1, _, 2, .str (S o.2.f), rfl, rfl, .inl (.inl g5), atI_ofNat (by decide) rfl, by show 2 ≤ sizeLine; decide, fun W nW => ?_⟩
                refine ⟨⟨_, rfl⟩, _, rfl, by show 1 ≤ sizeLine; decide, fun L1 nL1 => ?_⟩
                obtain ⟨H6, hH6⟩ : ∃ H6, H6 = upd H5 W (.lst [V.str (PySem.Str.ofString "zzzz"), V.str (S o.2.f)]) := ⟨_, rfl⟩
                have s56 : Same H5 H6 := by rw [hH6]; exact same_upd nW
                have hW : H6 W = some (.lst [V.str (PySem.Str.ofString "zzzz"), V.str (S o.2.f)]) := by rw [hH6]; exact upd_same
                change upd H5 W (.lst [V.str (PySem.Str.ofString "zzzz"), V.str (S o.2.f)]) L1 = none at nL1
                rw [← hH6] at nL1
                refine ⟨_, rfl, L1, W, _, [V.str (PySem.Str.ofString "zzzz"), V.str (S o.2.f)], rfl, rfl, upd_same, ?_⟩
                change upd (upd H5 W (.lst [V.str (PySem.Str.ofString "zzzz"), V.str (S o.2.f)])) L1 _ W = _ ∧ _
                rw [← hH6]
                refine ⟨same_upd nL1 _ _ hW, by show 1 + 2 ≤ sizeLine; decide, fun L2 nL2 => ⟨_, rfl, rfl, _, rfl, ?_⟩⟩
                have s6b := (same_upd nL1 (o := .lst [V.str (S r.k)])).trans (same_upd nL2 (o := .lst ([V.str (S r.k)] ++ [V.str (PySem.Str.ofString "zzzz"), V.str (S o.2.f)])))
                generalize hH7 : upd (upd H6 L1 _) L2 _ = H7 at s6b ⊢
                have hL2 : H7 L2 = some (.lst [V.str (S r.k), V.str (PySem.Str.ofString "zzzz"), V.str (S o.2.f)]) := by rw [← hH7]; exact upd_same
                cases hp : r.p with
                | none =>
                  rw [show (!decide (pV none = V.non)) = false from rfl]
                  refine iteF ⟨Nat.zero_le _, fun L3 nL3 => ?_⟩
                  refine ⟨L2, L3, _, _, rfl, rfl, same_upd nL3 _ _ hL2, upd_same, by show 3 + 0 ≤ sizeLine; decide, fun J nJ => ?_⟩
                  refine ⟨_, J, [S r.k, PySem.Str.ofString "zzzz", S o.2.f], rfl, rfl, .inl (.inl (.inl upd_same)), ?_, by show 2 ≤ sizeLine; decide, fun t nt => ?_⟩
                  · show ((S r.k).length + ((S (sN "zzzz")).length + ((S (o.2.f)).length + 0))) + 3 * 1 ≤ 16777216
                    rw [S_len, S_len, S_len]
                    have := lr.1; have := lo.1; have := lo.2.1; have := lo.2.2.1
                    have : (sN "zzzz").length = 4 := rfl
                    omega
                  · rw [show Txt.join (PySem.Str.ofString " ") [S r.k, PySem.Str.ofString "zzzz", S o.2.f] = S (joinC 32 (r.k :: sN "zzzz" :: o.2.f :: r.p.toList)) from by rw [hp]; exact join_parts 32 [r.k, sN "zzzz", o.2.f]] at *
                    have sfin : Same H5 _ := (s56.trans s6b).trans ((same_upd nL3).trans (same_upd nJ (o := .lst ([V.str (S r.k), V.str (PySem.Str.ofString "zzzz"), V.str (S o.2.f)] ++ []))))
                    exact done (fun b u h n => sfin _ _ (kH5 _ _ h n)) (hd5.same sfin) nt (by
                      show (joinC 32 _).length ≤ 300
                      rw [hp]
                      show (r.k ++ 32 :: (sN "zzzz" ++ 32 :: o.2.f)).length ≤ 300
                      have := lr.1; have := lo.1; have := lo.2.1; have := lo.2.2.1
                      have : (sN "zzzz").length = 4 := rfl
                      rw [List.length_append, List.length_cons, List.length_append, List.length_cons]
                      omega) (twiceF_add hall ho2 g2.symm g3)
                | some pp =>
                  have lp : pp.length ≤ 12 := lr.2.2.2.1 pp (by rw [hp]; simp)
                  rw [show (!decide (pV (some pp) = V.non)) = true from rfl]
                  refine iteT ⟨_, rfl, by show 1 ≤ sizeLine; decide, fun L3 nL3 => ?_⟩
                  refine ⟨L2, L3, _, _, rfl, rfl, same_upd nL3 _ _ hL2, upd_same, by show 3 + 1 ≤ sizeLine; decide, fun J nJ => ?_⟩
                  refine ⟨_, J, [S r.k, PySem.Str.ofString "zzzz", S o.2.f, S pp], rfl, rfl, .inl (.inl (.inl upd_same)), ?_, by show 2 ≤ sizeLine; decide, fun t nt => ?_⟩
                  · show ((S r.k).length + ((S (sN "zzzz")).length + ((S (o.2.f)).length + ((S pp).length + 0)))) + 4 * 1 ≤ 16777216
                    rw [S_len, S_len, S_len, S_len]
                    have := lr.1; have := lo.1; have := lo.2.1; have := lo.2.2.1
                    have : (sN "zzzz").length = 4 := rfl
                    omega
                  · rw [show Txt.join (PySem.Str.ofString " ") [S r.k, PySem.Str.ofString "zzzz", S o.2.f, S pp] = S (joinC 32 (r.k :: sN "zzzz" :: o.2.f :: r.p.toList)) from by rw [hp]; exact join_parts 32 [r.k, sN "zzzz", o.2.f, pp]] at *
                    have sfin : Same H5 _ := (s56.trans s6b).trans ((same_upd nL3 (o := .lst [V.str (S pp)])).trans (same_upd nJ (o := .lst ([V.str (S r.k), V.str (PySem.Str.ofString "zzzz"), V.str (S o.2.f)] ++ [V.str (S pp)]))))
                    exact done (fun b u h n => sfin _ _ (kH5 _ _ h n)) (hd5.same sfin) nt (by
                      show (joinC 32 _).length ≤ 300
                      rw [hp]
                      show (r.k ++ 32 :: (sN "zzzz" ++ 32 :: (o.2.f ++ 32 :: pp))).length ≤ 300
                      have := lr.1; have := lo.1; have := lo.2.1; have := lo.2.2.1
                      have : (sN "zzzz").length = 4 := rfl
                      rw [List.length_append, List.length_cons, List.length_append, List.length_cons, List.length_append, List.length_cons]
                      omega) (twiceF_add hall ho2 g2.symm g3)
end
end K34
set_option Elab.async false
set_option linter.all false
set_option maxRecDepth 100000
set_option maxHeartbeats 4000000
namespace K34
open PySem PySem.Spec PyProof.Rows L2 Tw Tk Lx
section
variable {P : Program} {w : World} {K : PySem.W.Frag} {mg : Str → Option Value} {base : Heap} {CT CI CL CM CX_ aL aN aF aP aT aK aNN aFN : Addr} {es : Array DictEntry} {en : Nat}
/-! ### law -/
def spLaw (K : PySem.W.Frag) : Sp := fun vs H Q _ => ∃ (a : Addr) (ns : List Int), vs = [.ref a] ∧ SqL K H a (ns.map V.int) ∧ ns.length ≤ 63 ∧ ∀ H', Q (.bl true) H'
theorem rows_short {rows : List Ent} (h : Rows rows) : Short rows := fun r hr => by
  obtain ⟨_, _, _, _, a1, a2, a3, a4, _⟩ := all_fit r (h.all r hr)
  exact ⟨by omega, by omega, by omega, fun p hp => Nat.le_trans (a4 p (by rw [hp]; simp)) (by decide)⟩
theorem all_line : ∀ r ∈ allRows, (lineOf r).length ≤ 60 := by decide +kernel
theorem line_short {r : Ent} (h : r ∈ allRows) : (lineOf r).length ≤ 5000 := Nat.le_trans (all_line r h) (by decide)
theorem RowsAt.same {H H' : Hp} {m : Addr} {rows : List Ent} (h : RowsAt H m rows) (s : Same H H') : RowsAt H' m rows := let ⟨vs, a, b⟩ := h; ⟨vs, s _ _ a, b.same s⟩
theorem add_one {rows : List Ent} {l : List Nat} {o o' : Option (List Ent)} {z z' : String} (a : Add rows l o z) (b : Add rows l o' z') : o = o' ∧ z = z' := by
  cases a <;> cases b <;> simp_all
theorem built_one {rows r1 r2 : List Ent} {ls : List (List Nat)} (a : Built rows ls r1) (b : Built rows ls r2) : r1 = r2 := by
  induction a generalizing r2 with
  | nil => cases b; rfl
  | cons a _ ih =>
    cases b with
    | cons a' b' =>
      cases (add_one a a').1
      exact ih b'
theorem built_no {rows r1 : List Ent} {ls : List (List Nat)} {z : String} {k m : Nat} (a : Built rows ls r1) (b : Fails rows k ls z m) : False := by
  induction a generalizing k with
  | nil => cases b
  | cons a _ ih =>
    cases b with
    | here a' => cases (add_one a a').1
    | later a' b' =>
      cases (add_one a a').1
      exact ih b'
theorem fails_one {rows : List Ent} {ls : List (List Nat)} {z z' : String} {k m m' : Nat} (a : Fails rows k ls z m) (b : Fails rows k ls z' m') : z = z' ∧ m = m' := by
  induction a with
  | here a =>
    cases b with
    | here a' => exact ⟨(add_one a a').2, rfl⟩
    | later a' b' => cases (add_one a a').1
  | later a _ ih =>
    cases b with
    | here a' => cases (add_one a a').1
    | later a' b' =>
      cases (add_one a a').1
      exact ih b'
theorem ite3 {b : Bool} {e1 e2 : TE} {σ : L2.St} {H : Hp} {K' : VK} (G : V → Hp → Prop) (t : b = true → ∀ K2 : VK, (∀ v H', G v H' → K2 v H') → e1 σ H K2) (e : b = false → ∀ K2 : VK, (∀ v H', G v H' → K2 v H') → e2 σ H K2) (h : ∀ v H', G v H' → K' v H') :
    (if b = true then e1 σ H K' else e2 σ H K') := by
  cases b with
  | true => exact t rfl K' h
  | false => exact e rfl K' h
def thingE : Ent := ⟨sN "noun", sN "thing", sN "jukk", none⟩
def rowD (r : Ent) : PyData := .tuple [.str (S r.k), .str (S r.n), .str (S r.f), match r.p with | none => .none | some p => .str (S p)]
def rowsD (rows : List Ent) : PyData := .list (rows.map rowD)
def linesD (rows : List Ent) : PyData := .list (rows.map fun r => .str (S (lineOf r)))
theorem rowD_dp {H : Hp} {q : Addr} {r : Ent} (h : H q = some (.tup (rowV r))) : Dp K H (.ref q) (rowD r) := by
  obtain ⟨k, n, f, p⟩ := r
  cases p with
  | none => exact .tup (.inl (.inl h)) (.cons (.str _) (.cons (.str _) (.cons (.str _) (.cons .non .nil))))
  | some p => exact .tup (.inl (.inl h)) (.cons (.str _) (.cons (.str _) (.cons (.str _) (.cons (.str _) .nil))))
theorem ents_dp {H : Hp} : ∀ {vs : List V} {rows : List Ent}, Ents H vs rows → DpAll K H vs (rows.map rowD)
  | [], [], _ => .nil
  | [], _ :: _, h => by cases h.1
  | _ :: _, [], h => by cases h.1
  | v :: vs, r :: rows, h => by
    obtain ⟨q, h1, h2⟩ := h.2 0 r rfl
    cases (show v = .ref q from Option.some.inj h1)
    exact .cons (rowD_dp h2) (ents_dp ⟨by simpa using h.1, fun i r' e => h.2 (i + 1) r' (by simpa using e)⟩)
theorem txt_dp {H : Hp} : ∀ rows : List Ent, DpAll K H (txt (rows.map lineOf)) (rows.map fun r => .str (S (lineOf r)))
  | [] => .nil
  | r :: rows => .cons (.str _) (txt_dp rows)
def ItemR (aT : Addr) (H : Hp) (v : V) (r : Ent) : Prop := (v = .ref aT ∧ r = thingE) ∨ ∃ q, v = .ref q ∧ H q = some (.tup (rowV r))
inductive ItemsR (aT : Addr) (H : Hp) : List V → List Ent → Prop
  | nil : ItemsR aT H [] []
  | cons {v : V} {r : Ent} {vs : List V} {rs : List Ent} : ItemR aT H v r → ItemsR aT H vs rs → ItemsR aT H (v :: vs) (r :: rs)
theorem ItemsR.kpt {aT : Addr} {H H' : Hp} (k : KpT H H') : ∀ {vs : List V} {rs : List Ent}, ItemsR aT H vs rs → ItemsR aT H' vs rs
  | _, _, .nil => .nil
  | _, _, .cons h t => .cons (h.imp id fun ⟨q, e, z⟩ => ⟨q, e, k _ _ z⟩) (ItemsR.kpt k t)
theorem ItemsR.snoc {aT : Addr} {H : Hp} {v : V} {r : Ent} (i : ItemR aT H v r) : ∀ {vs : List V} {rs : List Ent}, ItemsR aT H vs rs → ItemsR aT H (vs ++ [v]) (rs ++ [r])
  | _, _, .nil => .cons i .nil
  | _, _, .cons h t => .cons h (ItemsR.snoc i t)
theorem ItemsR.len {aT : Addr} {H : Hp} : ∀ {vs : List V} {rs : List Ent}, ItemsR aT H vs rs → vs.length = rs.length
  | _, _, .nil => rfl
  | _, _, .cons _ t => by rw [List.length_cons, List.length_cons, ItemsR.len t]
theorem ItemsR.dp {aT : Addr} {H : Hp} (th : Dp K H (.ref aT) (rowD thingE)) : ∀ {vs : List V} {rs : List Ent}, ItemsR aT H vs rs → DpAll K H vs (rs.map rowD)
  | _, _, .nil => .nil
  | _, _, .cons h t => .cons (by
    rcases h with ⟨rfl, rfl⟩ | ⟨q, rfl, e⟩
    · exact th
    · exact rowD_dp e) (ItemsR.dp th t)
theorem all_small : ∀ r ∈ thingE :: allRows, (∀ c ∈ r.k, c < 300) ∧ (∀ c ∈ r.n, c < 300) ∧ (∀ c ∈ r.f, c < 300) ∧ (∀ p ∈ r.p.toList, ∀ c ∈ p, c < 300) ∧ ∀ c ∈ lineOf r, c < 300 := by decide +kernel
theorem lay_S {l : List Nat} (h : ∀ c ∈ l, c < 300) : PyData.canLay0 (.str (S l)) = true := str_lay (S l) fun c hc => by have := h c hc; omega
theorem rowD_lay {r : Ent} (h : r ∈ thingE :: allRows) : (rowD r).canLay0 = true := by
  obtain ⟨a1, a2, a3, a4, _⟩ := all_small r h
  obtain ⟨k, n, f, p⟩ := r
  cases p with
  | none =>
    show (PyData.canLay0 (.str (S k)) && (PyData.canLay0 (.str (S n)) && (PyData.canLay0 (.str (S f)) && true))) = true
    rw [lay_S a1, lay_S a2, lay_S a3]; rfl
  | some p =>
    show (PyData.canLay0 (.str (S k)) && (PyData.canLay0 (.str (S n)) && (PyData.canLay0 (.str (S f)) && (PyData.canLay0 (.str (S p)) && true)))) = true
    rw [lay_S a1, lay_S a2, lay_S a3, lay_S (a4 p (by simp))]; rfl
theorem rowD_depth (r : Ent) : (rowD r).depth ≤ 2 := by
  obtain ⟨k, n, f, p⟩ := r
  cases p <;> exact (by decide : (1 : Nat) ≤ 2)
theorem all_mem {rows : List Ent} (h : Rows rows) : ∀ r ∈ thingE :: rows, r ∈ thingE :: allRows := fun r hr => by
  rcases List.mem_cons.mp hr with rfl | hr
  · exact List.mem_cons_self
  · exact List.mem_cons_of_mem _ (h.all r hr)
theorem rowsD_shaped {rows : List Ent} (h : ∀ r ∈ rows, r ∈ thingE :: allRows) : SeqAt.shaped (plainD (rowsD rows)) = true := by
  refine plain_shaped (show PyData.canLayAll0 (rows.map rowD) = true from layAll fun d hd => ?_) ?_
  · obtain ⟨r, hr, rfl⟩ := List.mem_map.mp hd
    exact rowD_lay (h r hr)
  · show PyData.depthAll (rows.map rowD) + 1 ≤ 60
    have := depthAll_le (ds := rows.map rowD) (n := 2) fun d hd => by
      obtain ⟨r, _, rfl⟩ := List.mem_map.mp hd
      exact rowD_depth r
    omega
theorem linesD_shaped {rows : List Ent} (h : ∀ r ∈ rows, r ∈ thingE :: allRows) : SeqAt.shaped (plainD (linesD rows)) = true := by
  refine plain_shaped (show PyData.canLayAll0 (rows.map fun r => PyData.str (S (lineOf r))) = true from layAll fun d hd => ?_) ?_
  · obtain ⟨r, hr, rfl⟩ := List.mem_map.mp hd
    exact lay_S (all_small r (h r hr)).2.2.2.2
  · show PyData.depthAll _ + 1 ≤ 60
    have := depthAll_le (ds := rows.map fun r => PyData.str (S (lineOf r))) (n := 2) fun d hd => by
      obtain ⟨r, _, rfl⟩ := List.mem_map.mp hd
      show (0 : Nat) ≤ 2
      omega
    omega
theorem eqv_of {d : PyData} (h : SeqAt.shaped d = true) : PyData.eqv d d = true :=
  SeqAt.eqv_refl _ (Bool.and_eq_true_iff.mp (show (PyData.canLay0 d && decide (d.depth ≤ 64)) = true from h)).1
theorem rowD_ok (r : Ent) (n : Nat) : okD (n + 1) (rowD r) := ⟨by obtain ⟨k, m, f, p⟩ := r; cases p <;> exact (by show 4 ≤ 50000; decide), fun x hx => by
  obtain ⟨k, m, f, p⟩ := r
  have : (∃ s, x = .str s) ∨ x = .none := by
    cases p <;> (simp only [List.mem_cons, List.not_mem_nil, or_false] at hx; rcases hx with h | h | h | h <;> first | exact .inr h | exact .inl ⟨_, h⟩)
  rcases this with ⟨s, rfl⟩ | rfl <;> cases n <;> exact True.intro⟩
theorem rowsD_ok {rows : List Ent} (h : rows.length ≤ 100) : okD 2 (rowsD rows) := ⟨by rw [List.length_map]; omega, fun x hx => by
  obtain ⟨r, _, rfl⟩ := List.mem_map.mp hx
  exact rowD_ok r 0⟩
theorem linesD_ok {rows : List Ent} (h : rows.length ≤ 100) : okD 2 (linesD rows) := ⟨by rw [List.length_map]; omega, fun x hx => by
  obtain ⟨r, _, rfl⟩ := List.mem_map.mp hx
  exact True.intro⟩
/-- the rows of that kind and near word -/
def dueP (rows : List Ent) (o n : List Nat) (k : Nat) : Bool := match rows[k]? with
  | some r => decide (r.k = o) && decide (r.n = n)
  | none => false
def due (rows : List Ent) (o n : List Nat) : List Nat := (List.range rows.length).filter (dueP rows o n)
def dueV (rows : List Ent) (o n : List Nat) : V := match (due rows o n).head? with
  | some j => .int (j : Nat)
  | none => .non
def dueD (rows : List Ent) (o n : List Nat) : PyData := match (due rows o n).head? with
  | some j => .int (j : Nat)
  | none => .none
theorem dueP_is {rows : List Ent} {o n : List Nat} {k : Nat} : dueP rows o n k = true ↔ ∃ r, rows[k]? = some r ∧ r.k = o ∧ r.n = n := by
  unfold dueP
  cases e : rows[k]? with
  | none => simp
  | some r => simp
theorem rows_one {rows : List Ent} (h : Rows rows) {i j : Nat} {r q : Ent} (hi : rows[i]? = some r) (hj : rows[j]? = some q) (hk : r.k = q.k) (hn : r.n = q.n ∨ r.f = q.f) : i = j := by
  obtain ⟨i1, i2⟩ := List.getElem?_eq_some_iff.mp hi
  obtain ⟨j1, j2⟩ := List.getElem?_eq_some_iff.mp hj
  rcases Nat.lt_trichotomy i j with c | c | c
  · have := List.pairwise_iff_getElem.mp h.dst i j i1 j1 c
    rw [i2, j2] at this
    obtain ⟨a, b⟩ := this hk
    exact hn.elim (fun z => absurd z a) (fun z => absurd z b)
  · exact c
  · have := List.pairwise_iff_getElem.mp h.dst j i j1 i1 c
    rw [i2, j2] at this
    obtain ⟨a, b⟩ := this hk.symm
    exact hn.elim (fun z => absurd z.symm a) (fun z => absurd z.symm b)
theorem row_words_not {rows : List Ent} (h : Rows rows) {i : Nat} {r : Ent} (hi : rows[i]? = some r) {k : List Nat} : ¬ ThingKey k (sN "near") r.n ∧ ¬ ThingKey k (sN "far") r.f := by
  obtain ⟨_, _, a1, a2, _⟩ := all_fit r (h.all r (List.mem_of_getElem? hi))
  have nf := near_far
  refine ⟨fun z => ?_, fun z => ?_⟩
  · rcases z.2 with ⟨_, z⟩ | ⟨z, _⟩
    · exact a1 z
    · exact nf z
  · rcases z.2 with ⟨z, _⟩ | ⟨_, z⟩
    · exact nf z.symm
    · exact a2 z
theorem num_near {rows : List Ent} (h : Rows rows) {i : Nat} {r : Ent} (hi : rows[i]? = some r) {v : V} (n : NumIs rows r.k (sN "near") r.n v) : v = .int (i : Nat) := by
  rcases n with ⟨_, z⟩ | ⟨_, z⟩ | ⟨j, q, rfl, hj, z⟩
  · exact absurd (.inr ⟨i, r, hi, rfl, .inl ⟨rfl, rfl⟩⟩) z
  · exact absurd z (row_words_not h hi).1
  · rcases z.2 with ⟨_, z2⟩ | ⟨z2, _⟩
    · rw [rows_one h hi hj z.1.symm (.inl z2.symm)]
    · exact absurd z2 near_far
theorem num_far {rows : List Ent} (h : Rows rows) {i : Nat} {r : Ent} (hi : rows[i]? = some r) {v : V} (n : NumIs rows r.k (sN "far") r.f v) : v = .int (i : Nat) := by
  rcases n with ⟨_, z⟩ | ⟨_, z⟩ | ⟨j, q, rfl, hj, z⟩
  · exact absurd (.inr ⟨i, r, hi, rfl, .inr ⟨rfl, rfl⟩⟩) z
  · exact absurd z (row_words_not h hi).2
  · rcases z.2 with ⟨z2, _⟩ | ⟨_, z2⟩
    · exact absurd z2.symm near_far
    · rw [rows_one h hi hj z.1.symm (.inr z2.symm)]
theorem num_due {rows : List Ent} (h : Rows rows) {i : Nat} {r : Ent} (hi : rows[i]? = some r) {o : List Nat} {v : V} (n : NumIs rows o (sN "near") r.n v) : v = dueV rows o r.n := by
  unfold dueV
  have one : ∀ j q, rows[j]? = some q → q.k = o → q.n = r.n → (due rows o r.n).head? = some j := fun j q hj hk hn => by
    have mem : j ∈ due rows o r.n := List.mem_filter.mpr ⟨List.mem_range.mpr (List.getElem?_eq_some_iff.mp hj).1, dueP_is.mpr ⟨q, hj, hk, hn⟩⟩
    cases e : due rows o r.n with
    | nil => rw [e] at mem; cases mem
    | cons k ks =>
      have hm : k ∈ due rows o r.n := by rw [e]; exact List.mem_cons_self
      obtain ⟨q', h1, h2, h3⟩ := dueP_is.mp (List.mem_filter.mp hm).2
      rw [rows_one h h1 hj (by rw [h2, hk]) (.inl (by rw [h3, hn]))]
      rfl
  rcases n with ⟨rfl, z⟩ | ⟨_, z⟩ | ⟨j, q, rfl, hj, z⟩
  · cases e : (due rows o r.n).head? with
    | none => rfl
    | some k =>
      have hm : k ∈ due rows o r.n := List.mem_of_mem_head? e
      obtain ⟨q', h1, h2, h3⟩ := dueP_is.mp (List.mem_filter.mp hm).2
      exact absurd (.inr ⟨k, q', h1, h2, .inl ⟨rfl, h3⟩⟩) z
  · exact absurd z (row_words_not h hi).1
  · rcases z.2 with ⟨_, z2⟩ | ⟨z2, _⟩
    · rw [one j q hj z.1 z2]
    · exact absurd z2 near_far
theorem dueD_dp {H : Hp} {rows : List Ent} {o n : List Nat} : Dp K H (dueV rows o n) (dueD rows o n) := by
  unfold dueV dueD
  cases (due rows o n).head? with
  | none => exact .non
  | some j => exact .int _
theorem dueD_ok {rows : List Ent} {o n : List Nat} {m : Nat} : okD m (dueD rows o n) ∧ (dueD rows o n).canLay0 = true ∧ (dueD rows o n).depth ≤ 2 := by
  unfold dueD
  cases (due rows o n).head? with
  | none => cases m <;> exact ⟨True.intro, rfl, by decide⟩
  | some j => cases m <;> exact ⟨True.intro, rfl, (by decide : (0 : Nat) ≤ 2)⟩
def numD (i : Nat) (d : PyData) : PyData := .list [.int i, .int i, d]
theorem numD_ok {i : Nat} {d : PyData} (h : okD 1 d) : okD 2 (numD i d) := ⟨by show 3 ≤ 50000; decide, fun x hx => by
  simp only [List.mem_cons, List.not_mem_nil, or_false] at hx
  rcases hx with rfl | rfl | rfl
  · exact True.intro
  · exact True.intro
  · exact h⟩
theorem numD_shaped {i : Nat} {d : PyData} (h : d.canLay0 = true) (h2 : d.depth ≤ 2) : SeqAt.shaped (plainD (numD i d)) = true := by
  refine plain_shaped (show (true && (true && (PyData.canLay0 d && true))) = true by rw [h]; rfl) ?_
  show max 0 (max 0 (max d.depth 0)) + 1 ≤ 60
  omega
theorem pair_eqv (a b c d : List Nat) : PyData.eqv (.tuple [.str (S a), .str (S b)]) (.tuple [.str (S c), .str (S d)]) = (decide (a = c) && decide (b = d)) := by
  show ((S a == S c) && ((S b == S d) && true)) = _
  have e : ∀ x y : List Nat, (S x == S y) = decide (x = y) := fun x y => by
    rw [Bool.eq_iff_iff, beq_iff_eq, decide_eq_true_eq]
    exact S_inj
  rw [e, e, Bool.and_true]
theorem pair_shaped {a b : List Nat} (ha : ∀ c ∈ a, c < 300) (hb : ∀ c ∈ b, c < 300) : SeqAt.shaped (.tuple [.str (S a), .str (S b)]) = true := by
  show ((PyData.canLay0 (.str (S a)) && (PyData.canLay0 (.str (S b)) && true)) && true) = true
  rw [lay_S ha, lay_S hb]
  rfl
theorem kinds_small : ∀ o ∈ ["noun", "adj", "verb", "name"], ∀ c ∈ sN o, c < 300 := by decide +kernel
theorem tx_S (o : String) : tx o = .str (S (sN o)) := by unfold tx; rw [S_sN]
/-- some lines bent, with the reasons -/
structure Bent (rows : List Ent) (dn : List Nat) (B : List (List Nat)) (kvs : List (Key × V)) : Prop where
  len : B.length = rows.length
  kl : kvs.length ≤ dn.length
  was : ∀ k, k ∉ dn → B[k]? = (rows.map lineOf)[k]?
  is : ∀ k ∈ dn, ∃ text why, B[k]? = some text ∧ valV kvs (.inl (k : Int)) = some (tx why) ∧ text.length ≤ 300 ∧ Add (rows.take k) text none why
theorem putK_le {kvs : List (Key × V)} {k : Key} {v : V} : (putK kvs k v).length ≤ kvs.length + 1 := by
  unfold putK
  split
  · rw [List.length_map]; omega
  · rw [List.length_append]; exact Nat.le_refl _
theorem Bent.step {rows : List Ent} {dn : List Nat} {B : List (List Nat)} {kvs : List (Key × V)} (b : Bent rows dn B kvs) {k : Nat} {text : List Nat} {why : String} (hk : k < rows.length) (hl : text.length ≤ 300) (a : Add (rows.take k) text none why) :
    Bent rows (dn ++ [k]) (B.set k text) (putK kvs (.inl (k : Int)) (tx why)) where
  len := by rw [List.length_set]; exact b.len
  kl := by
    have := putK_le (kvs := kvs) (k := .inl (k : Int)) (v := tx why)
    have := b.kl
    rw [List.length_append]
    show _ ≤ dn.length + 1
    omega
  was := fun j hj => by
    rw [List.mem_append, not_or, List.mem_singleton] at hj
    rw [List.getElem?_set_ne (Ne.symm hj.2)]
    exact b.was j hj.1
  is := fun j hj => by
    by_cases e : j = k
    · subst e
      exact ⟨text, why, List.getElem?_set_self (by rw [b.len]; exact hk), by rw [valV_put, if_pos rfl], hl, a⟩
    · have hj' : j ∈ dn := by
        rcases List.mem_append.mp hj with h | h
        · exact h
        · exact absurd (List.mem_singleton.mp h) e
      obtain ⟨t2, w2, h1, h2, h3, h4⟩ := b.is j hj'
      refine ⟨t2, w2, by rw [List.getElem?_set_ne (Ne.symm e)]; exact h1, ?_, h3, h4⟩
      rw [valV_put, if_neg (fun z => e (by injection z with z; omega))]
      exact h2
theorem Bent.short {rows : List Ent} {dn : List Nat} {B : List (List Nat)} {kvs : List (Key × V)} (b : Bent rows dn B kvs) (h : Rows rows) : ∀ l ∈ B, l.length ≤ 5000 := fun l hl => by
  obtain ⟨k, hk⟩ := List.mem_iff_getElem?.mp hl
  by_cases hd : k ∈ dn
  · obtain ⟨t, w, h1, _, h3, _⟩ := b.is k hd
    rw [hk] at h1
    cases h1
    omega
  · have := b.was k hd
    rw [hk, List.getElem?_map] at this
    cases e : rows[k]? with
    | none => rw [e] at this; cases this
    | some r =>
      rw [e] at this
      cases (show l = lineOf r from Option.some.inj this)
      exact line_short (h.all r (List.mem_of_getElem? e))
theorem Bent.fails {rows : List Ent} {dn : List Nat} {B : List (List Nat)} {kvs : List (Key × V)} (b : Bent rows dn B kvs) (h : Rows rows) {k : Nat} (hk : k ∈ dn) (hkr : k < rows.length) (lo : ∀ j ∈ dn, k ≤ j) :
    ∃ why, valV kvs (.inl (k : Int)) = some (tx why) ∧ Fails [] 1 B why (1 + k) ∧ Fails [] 1 (B.take (k + 1)) why (1 + k) := by
  obtain ⟨t, w, h1, h2, _, h4⟩ := b.is k hk
  have e : B.take k = (rows.take k).map lineOf := by
    apply List.ext_getElem?
    intro j
    by_cases hj : j < k
    · rw [List.getElem?_take_of_lt hj, b.was j (fun z => by have := lo j z; omega), List.map_take, List.getElem?_take_of_lt hj]
    · rw [List.getElem?_eq_none (by rw [List.length_take]; omega), List.getElem?_eq_none (by rw [List.length_map, List.length_take]; omega)]
  have hb : Built [] (B.take k) (rows.take k) := by rw [e]; exact (h.take k).built
  have bl : (B.take k).length = k := by rw [List.length_take, b.len]; omega
  have go : ∀ post, Fails [] 1 (B.take k ++ t :: post) w (1 + k) := fun post => by
    have := hb.fails (k := 1) (post := t :: post) (z := w) (m := 1 + (B.take k).length) (.here h4)
    rw [bl] at this
    exact this
  refine ⟨w, h2, ?_, ?_⟩
  · have hk2 := (List.getElem?_eq_some_iff.mp h1).1
    have := go (B.drop (k + 1))
    rw [← (List.getElem?_eq_some_iff.mp h1).2, ← List.drop_eq_getElem_cons hk2, List.take_append_drop] at this
    exact this
  · rw [List.take_add_one, h1]
    exact go []
theorem txt_set {B : List (List Nat)} {k : Nat} {t : List Nat} : (txt B).set k (.str (S t)) = txt (B.set k t) := by
  unfold txt
  rw [List.map_set]
theorem cut_take (vs : List V) (n : Nat) : cutV vs none (some ((n : Int) + 1)) = vs.take (n + 1) := by
  rw [show (n : Int) + 1 = ((n + 1 : Nat) : Int) by omega]
  unfold cutV
  rw [HT.sIx_none, HT.sIx_nat, List.drop_zero, Nat.sub_zero]
  rcases Nat.le_total (n + 1) vs.length with h | h
  · rw [Nat.min_eq_left h]
  · rw [Nat.min_eq_right h, List.take_length, List.take_of_length_le h]
theorem fails_why {rows : List Ent} {ls : List (List Nat)} {z : String} {k m : Nat} (f : Fails rows k ls z m) : z ∈ ["form", "closed", "twice"] := by
  induction f with
  | here a => cases a <;> simp
  | later _ _ ih => exact ih
def whyD (z : String) (n : Int) : PyData := .tuple [.str (PySem.Str.ofString z), .int n]
theorem why_lay : ∀ z ∈ ["form", "closed", "twice", "language", "lines", "many"], ∀ c ∈ sN z, c < 300 := by decide +kernel
theorem lay_w {z : String} (h : z ∈ ["form", "closed", "twice", "language", "lines", "many"]) : PyData.canLay0 (.str (PySem.Str.ofString z)) = true := by
  rw [S_sN]
  exact lay_S (why_lay z h)
theorem whyD_lay {z : String} {n : Int} (h : z ∈ ["form", "closed", "twice", "language", "lines", "many"]) : (whyD z n).canLay0 = true := by
  show (PyData.canLay0 (.str _) && (true && true)) = true
  rw [lay_w h]; rfl
theorem whyD_shaped {z : String} {n : Int} (h : z ∈ ["form", "closed", "twice", "language", "lines", "many"]) : SeqAt.shaped (whyD z n) = true := by
  show ((whyD z n).canLay0 && true) = true
  rw [whyD_lay h]; rfl
theorem rep_txt (n : Nat) : (List.replicate n [V.str (PySem.Str.ofString "")]).flatten = txt (List.replicate n []) := by
  induction n with
  | zero => rfl
  | succ n ih =>
    rw [List.replicate_succ, List.flatten_cons, ih]
    rfl
def manyD (n : Int) : PyData := .tuple [.str (PySem.Str.ofString "lines"), .int n, .str (PySem.Str.ofString "many")]
def langD : PyData := .list [whyD "language" 0, whyD "language" 0, whyD "language" 0, whyD "language" 0]
theorem manyD_shaped {n : Int} : SeqAt.shaped (manyD n) = true := by
  show ((PyData.canLay0 (.str _) && (true && (PyData.canLay0 (.str _) && true))) && true) = true
  rw [lay_w (by simp), lay_w (by simp)]; rfl
theorem langD_shaped : SeqAt.shaped langD = true := by
  show (((whyD "language" 0).canLay0 && ((whyD "language" 0).canLay0 && ((whyD "language" 0).canLay0 && ((whyD "language" 0).canLay0 && true)))) && true) = true
  rw [whyD_lay (by simp)]; rfl
def allNumbers : List String := nearNumbers ++ farNumbers
theorem numbers_closed : ∀ w ∈ allNumbers, sN w ∈ (nearClosed ++ farClosed).map sN := by decide +kernel
theorem numbers_uniq : SetG.uniq [] (allNumbers.map PySem.Str.ofString) = 16 := by decide +kernel
/-- what stands while law runs -/
structure LS (C p m ml x lt ld : Addr) (rows : List Ent) (H : Hp) : Prop where
  dk : Deck H p
  rw : RowsAt H m rows
  ln : Lines H ml rows
  lx : LexAt C H x lt ld rows
  pm : m ≠ p
  pl : ml ≠ p
  pt : lt ≠ p
theorem LS.same {C p m ml x lt ld : Addr} {rows : List Ent} {H H' : Hp} (h : LS C p m ml x lt ld rows H) (s : Same H H') : LS C p m ml x lt ld rows H' := ⟨h.dk.same s, h.rw.same s, s _ _ h.ln, h.lx.same s, h.pm, h.pl, h.pt⟩
theorem LS.kp {C p m ml x lt ld : Addr} {rows : List Ent} {H H' : Hp} (h : LS C p m ml x lt ld rows H) (k : Kp p H H') (d : Deck H' p) : LS C p m ml x lt ld rows H' := by
  obtain ⟨ds, e3, _⟩ := h.dk
  have kt : KpT H H' := .of e3 (fun _ z => by cases z) k
  obtain ⟨vs, e1, e2⟩ := h.rw
  obtain ⟨dx, vs', kvs, g1, g2, g3, g4, g5⟩ := h.lx
  exact ⟨d, ⟨vs, k _ _ e1 h.pm, e2.kpt kt⟩, k _ _ h.ln h.pl, ⟨dx, vs', kvs, k _ _ g1 (fun z => by rw [z, e3] at g1; cases g1), k _ _ g2 h.pt, g3.kpt kt, k _ _ g4 (fun z => by rw [z, e3] at g4; cases g4), g5⟩, h.pm, h.pl, h.pt⟩
abbrev s_law : Stmt := topS 33
theorem sc_law : FnScope ["script", "deck", "rows", "lines", "lexicon", "told", "at", "got", "kind", "near", "far", "person", "other", "due", "k", "numbers", "first", "second", "bent", "reasons", "least", "many", "word"] ["script"] (defScope s_law) := ⟨rfl, rfl, rfl, by decide +kernel, rfl, by decide +kernel, by decide +kernel⟩
theorem ok_law {C : Addr} {f : Addr} {fd : FuncData} (F : Fun K "law" "law" s_law f fd) (T : Tx mg) (EX : Ex K mg CT CI CL CM) (CN : Cn K w mg aL aN aF aP aT aK aNN aFN es en) (LC : LexC K C) (C__law_deck : C8.Cal P w K mg base 1 "_law_deck" (spDeck K) []) (C__law_take : C8.Cal P w K mg base 1 "_law_take" spTake []) (C__law_plain : C8.Cal P w K mg base 3 "_law_plain" (spPlain K 2) [])
    (C__law_spoil : C8.Cal P w K mg base 3 "_law_spoil" (spSpoil K 2) []) (C__law_lexicon : C8.Cal P w K mg base 2 "_law_lexicon" (spLexi K) []) (C__law_lines : C8.Cal P w K mg base 1 "_law_lines" (spLinesL K) [])
    (K_Lexicon : LX.MakX P w K mg base 4 "Lexicon" C (spLex K C CL CM)) (m_size : LX.Met0 P w K mg base 1 C "size" (spSize C)) (m_entry : LX.Met0 P w K mg base 1 C "entry" (spEnt aT C)) (m_number : LX.Met0 P w K mg base 4 C "number" (spNumb C)) (m_lines : LX.Met0 P w K mg base 1 C "lines" (spLinesM C))
    (C__law_refusal : C8.Cal P w K mg base 6 "_law_refusal" (spRefusal K) []) (C__law_wrong : C8.Cal P w K mg base 5 "_law_wrong" spWrong []) (C__law_languages : C8.Cal P w K mg base 4 "_law_languages" spLangs []) (C_closed_words : ExS.CalX P w K mg base 4 "closed_words" (spClosed aN aF)) : FnOk P w K mg base CX0 7 f fd ["script"] (spLaw K) := by
  refine F.ok sc_law (fun vs H Q E h => ?_) (fun cdv A outer s H vs Q E hr h => ?_)
  · obtain ⟨a, ns, rfl, _⟩ := h
    rfl
  · obtain ⟨a, ns, rfl, hS, h63, q⟩ := h
    refine ⟨_, (pss_cons (ps_set (i := 1) sc_law.nd rfl (.inl rfl) (C8.pe_c C__law_deck hr (by omega) rfl (pa_cons (pv 0) (pa_cons pe_int (pa_cons pe_int pa_nil)))))
    (pss_cons (ps_set (i := 2) sc_law.nd rfl (.inr rfl) (C8.pe_c C__law_lexicon hr (by omega) rfl (pa_cons (pv 1) (pa_cons (pe_tup (pa_cons pe_int (pa_cons pe_int (pa_cons pe_int (pa_cons pe_int pa_nil))))) pa_nil))))
    (pss_cons (ps_set (i := 3) sc_law.nd rfl (.inl rfl) (C8.pe_c C__law_lines hr (by omega) rfl (pa_cons (pv 2) pa_nil)))
    (pss_cons (ps_set (i := 4) sc_law.nd rfl (.inr rfl) (LX.pe_mkX K_Lexicon hr (by omega) rfl ExS.pass0S (pa_cons (pe_ifExp (pt_cmpR op_eq (C8.pe_c C__law_take hr (by omega) rfl (pa_cons (pv 1) (pa_cons pe_int pa_nil))) pe_int (nomark _)) (pv 3) (pe_callTy call_tuple_of rfl T.n_tuple (by decide +kernel) (pa_cons (pv 3) pa_nil))) pa_nil)))
    (pss_cons (ps_setLc (i := 5) (own := [("at", 6)]) rfl sc_law.nd rfl rfl (sw_true rfl rfl rfl (by decide +kernel)) (pi_range2 rfl T.n_range (pa_cons (pe_un un_neg pe_int) (pa_cons (pe_callB call_len_seq rfl T.n_len (by decide +kernel) (pa_cons (pv 2) pa_nil)) pa_nil))) (blkOk_by (own := [("at", 6)]) (N := ["script", "deck", "rows", "lines", "lexicon", "told", "at", "got", "kind", "near", "far", "person", "other", "due", "k", "numbers", "first", "second", "bent", "reasons", "least", "many", "word"]) (sc := defScope s_law) (by decide +kernel)) (fun _ _ _ _ _ => (pg_name (i := 6) sc_law.nd rfl (.inl rfl))) (fun _ _ _ _ _ => pts_nil) (fun _ _ _ _ _ => (LX.pe_m0 m_entry hr (by omega) (pv 4) (pa_cons (pv 6) pa_nil))))
    (C8.pss_cut (ps_if (PW.pt (pw_or (pt_cmpR op_ne (LX.pe_m00 m_size hr (by omega) (pv 4)) (pe_callB call_len_seq rfl T.n_len (by decide +kernel) (pa_cons (pv 2) pa_nil)) (nomark _)) (pw_or1 (pt_cmpR (op_neD hr.units) (C8.pe_c C__law_plain hr (by omega) rfl (pa_cons (pv 5) pa_nil)) (C8.pe_c C__law_plain hr (by omega) rfl (pa_cons (pe_op op_cat (pe_lst (pa_cons (pe_tup (pa_cons pe_str (pa_cons pe_str (pa_cons pe_str (pa_cons pe_non pa_nil))))) pa_nil)) (pv 2)) pa_nil)) (nomark _)))))
      (pss_one (ps_ret pe_bl))
      pss_nil)
    (pss_cons (ps_set (i := 7) sc_law.nd rfl (.inl rfl) (LX.pe_m00 m_lines hr (by omega) (pv 4)))
    (pss_cons (ps_if (pt_cmpR (op_neD hr.units) (C8.pe_c C__law_plain hr (by omega) rfl (pa_cons (pv 7) pa_nil)) (C8.pe_c C__law_plain hr (by omega) rfl (pa_cons (pv 3) pa_nil)) (nomark _))
      (pss_one (ps_ret pe_bl))
      pss_nil)
    (pss_cons (ps_expr (C8.pe_c C__law_spoil hr (by omega) rfl (pa_cons (pv 7) pa_nil)))
    (pss_cons (ps_if (pt_cmpR (op_neD hr.units) (C8.pe_c C__law_plain hr (by omega) rfl (pa_cons (LX.pe_m00 m_lines hr (by omega) (pv 4)) pa_nil)) (C8.pe_c C__law_plain hr (by omega) rfl (pa_cons (pv 3) pa_nil)) (nomark _))
      (pss_one (ps_ret pe_bl))
      pss_nil)
    (pss_cons (ps_for PassesOwn.never rfl (pi_range1 rfl T.n_range (pa_cons (pe_callB call_len_seq rfl T.n_len (by decide +kernel) (pa_cons (pv 2) pa_nil)) pa_nil)) (pg_name (i := 6) sc_law.nd rfl (.inl rfl))
      (pss_cons (ps_asg (pe_ix ix_list (pv 2) (pv 6) (fun _ _ => rfl)) (pg_tup rfl (pgs_cons (pg_name (i := 8) sc_law.nd rfl (.inl rfl)) (pgs_cons (pg_name (i := 9) sc_law.nd rfl (.inr rfl)) (pgs_cons (pg_name (i := 10) sc_law.nd rfl (.inl rfl)) (pgs_cons (pg_name (i := 11) sc_law.nd rfl (.inl rfl)) pgs_nil))))))
      (pss_cons (ps_set (i := 12) sc_law.nd rfl (.inr rfl) (pe_ix ix_list (pe_lst (pa_cons pe_str (pa_cons pe_str (pa_cons pe_str (pa_cons pe_str pa_nil))))) (C8.pe_c C__law_take hr (by omega) rfl (pa_cons (pv 1) (pa_cons pe_int pa_nil))) (fun _ _ => rfl)))
      (pss_cons (ps_setLc (i := 13) (own := [("k", 14)]) rfl sc_law.nd rfl rfl (sw_true rfl rfl rfl (by decide +kernel)) (pi_range1 rfl T.n_range (pa_cons (pe_callB call_len_seq rfl T.n_len (by decide +kernel) (pa_cons (pv 2) pa_nil)) pa_nil)) (blkOk_by (own := [("k", 14)]) (N := ["script", "deck", "rows", "lines", "lexicon", "told", "at", "got", "kind", "near", "far", "person", "other", "due", "k", "numbers", "first", "second", "bent", "reasons", "least", "many", "word"]) (sc := defScope s_law) (by decide +kernel)) (fun _ _ _ _ _ => (pg_name (i := 14) sc_law.nd rfl (.inl rfl))) (fun _ _ _ _ _ => (pts_one (pt_cmpR (show OpR _ _ (rEqD K) from op_eqD hr.units) (pe_slice (show SlR _ (rSlA K) from sl_tupA) (pe_ix (show IxR _ (rIxL K) from ix_list) (pv 2) (pv 14) (fun _ _ => rfl)) po_none (po_some pe_int)) (pe_tup (pa_cons (pv 12) (pa_cons (pv 9) pa_nil))) (nomark _)))) (fun _ _ _ _ _ => (pv 14)))
      (pss_cons (ps_set (i := 15) sc_law.nd rfl (.inl rfl) (pe_lst (pa_cons (LX.pe_m0 m_number hr (by omega) (pv 4) (pa_cons (pv 8) (pa_cons pe_str (pa_cons (pv 9) pa_nil)))) (pa_cons (LX.pe_m0 m_number hr (by omega) (pv 4) (pa_cons (pv 8) (pa_cons pe_str (pa_cons (pv 10) pa_nil)))) (pa_cons (LX.pe_m0 m_number hr (by omega) (pv 4) (pa_cons (pv 12) (pa_cons pe_str (pa_cons (pv 9) pa_nil)))) pa_nil)))))
      (pss_one (ps_if (pt_cmpR (op_neD hr.units) (C8.pe_c C__law_plain hr (by omega) rfl (pa_cons (pv 15) pa_nil)) (C8.pe_c C__law_plain hr (by omega) rfl (pa_cons (pe_lst (pa_cons (pv 6) (pa_cons (pv 6) (pa_cons (pe_ifExp (pt_cmpR op_gt (pe_callB call_len_seq rfl T.n_len (by decide +kernel) (pa_cons (pv 13) pa_nil)) pe_int (nomark _)) (pe_ix ix_list (pv 13) pe_int (fun _ _ => rfl)) pe_non) pa_nil)))) pa_nil)) (nomark _))
        (pss_one (ps_ret pe_bl))
        pss_nil)))))))
    (C8.pss_cut (ps_if (PW.pt (pw_or (pt_cmpR op_ne (LX.pe_m0 m_number hr (by omega) (pv 4) (pa_cons pe_str (pa_cons pe_str (pa_cons pe_str pa_nil)))) (pe_un un_neg pe_int) (nomark _)) (pw_or1 (pt_cmpR op_ne (LX.pe_m0 m_number hr (by omega) (pv 4) (pa_cons pe_str (pa_cons pe_str (pa_cons pe_str pa_nil)))) (pe_un un_neg pe_int) (nomark _)))))
      (pss_one (ps_ret pe_bl))
      pss_nil)
    (pss_cons (ps_set (i := 16) sc_law.nd rfl (.inl rfl) (C8.pe_c C__law_take hr (by omega) rfl (pa_cons (pv 1) (pa_cons (pe_callB call_len_seq rfl T.n_len (by decide +kernel) (pa_cons (pv 2) pa_nil)) pa_nil))))
    (pss_cons (ps_set (i := 17) sc_law.nd rfl (.inl rfl) (C8.pe_c C__law_take hr (by omega) rfl (pa_cons (pv 1) (pa_cons (pe_callB call_len_seq rfl T.n_len (by decide +kernel) (pa_cons (pv 2) pa_nil)) pa_nil))))
    (pss_cons (ps_set (i := 18) sc_law.nd rfl (.inl rfl) (pe_callTy call_list_of rfl T.n_list (by decide +kernel) (pa_cons (pv 3) pa_nil)))
    (pss_cons (ps_set (i := 19) sc_law.nd rfl (.inl rfl) pe_dnewK)
    (pss_cons (ps_for PassesOwn.never rfl (pi_tup (pe_tup (pa_cons (pv 17) (pa_cons (pv 16) pa_nil)))) (pg_name (i := 6) sc_law.nd rfl (.inl rfl))
      (pss_one (ps_asg (C8.pe_c C__law_wrong hr (by omega) rfl (pa_cons (pv 1) (pa_cons (pv 2) (pa_cons (pv 6) pa_nil)))) (pg_tup rfl (pgs_cons (pg_sub (pv 18) (pv 6) set_list) (pgs_cons (pg_sub (pv 19) (pv 6) (set_dict (hu_of hr))) pgs_nil))))))
    (pss_cons (ps_set (i := 20) sc_law.nd rfl (.inl rfl) (pe_callB (call_min2' rfl) rfl T.n_min (by decide +kernel) (pa_cons (pv 16) (pa_cons (pv 17) pa_nil))))
    (C8.pss_cut (ps_if (PW.pt (pw_or (pt_cmpR op_eq (pe_dget (hu_of hr) (pv 19) (pe_callB (call_max2' rfl) rfl T.n_max (by decide +kernel) (pa_cons (pv 16) (pa_cons (pv 17) pa_nil))) (fun _ _ => rfl)) pe_str (nomark _)) (pw_or1 (pt_cmpR op_eq (pv 20) (pe_callB (call_max2' rfl) rfl T.n_max (by decide +kernel) (pa_cons (pv 16) (pa_cons (pv 17) pa_nil))) (nomark _)))))
      (pss_one (ps_set (i := 18) sc_law.nd rfl (.inl rfl) (pe_slice sl_list (pv 18) po_none (po_some (pe_op op_add (pv 20) pe_int)))))
      pss_nil)
    (pss_cons (ps_if (pt_cmpR (op_neD hr.units) (C8.pe_c C__law_refusal hr (by omega) rfl (pa_cons (pv 18) pa_nil)) (pe_tup (pa_cons (pe_dget (hu_of hr) (pv 19) (pv 20) (fun _ _ => rfl)) (pa_cons (pe_op op_add (pv 20) pe_int) pa_nil))) (nomark _))
      (pss_one (ps_ret pe_bl))
      pss_nil)
    (pss_cons (ps_set (i := 21) sc_law.nd rfl (.inl rfl) (pe_op op_add pe_int (C8.pe_c C__law_take hr (by omega) rfl (pa_cons (pv 1) (pa_cons pe_int pa_nil)))))
    (C8.pss_cut (ps_if (PW.pt (pw_or (pt_cmpR (op_neD hr.units) (C8.pe_c C__law_refusal hr (by omega) rfl (pa_cons (pe_op op_rep (pe_lst (pa_cons pe_str pa_nil)) (pv 21)) pa_nil)) (pe_tup (pa_cons pe_str (pa_cons (pv 21) (pa_cons pe_str pa_nil)))) (nomark _)) (pw_or1 (pt_cmpR op_notN (C8.pe_c C__law_refusal hr (by omega) rfl (pa_cons (pe_lst pa_nil) pa_nil)) pe_non (nomark _)))))
      (pss_one (ps_ret pe_bl))
      pss_nil)
    (pss_cons (ps_set (i := 15) sc_law.nd rfl (.inl rfl) (pe_op op_cat (pe_callTy call_list_of rfl T.n_list (by decide +kernel) (pa_cons (C8.pe_gc rfl CN.c_NEAR_NUMBERS) pa_nil)) (pe_callTy call_list_of rfl T.n_list (by decide +kernel) (pa_cons (C8.pe_gc rfl CN.c_FAR_NUMBERS) pa_nil))))
    (C8.pss_cut (ps_if (PW.pt (pw_or (pt_cmpR op_gt (pe_callB call_len_seq rfl T.n_len (by decide +kernel) (pa_cons (pe_lc (own := [("word", 22)]) rfl sc_law.nd (pi_list (pv 15)) (blkOk_by (own := [("word", 22)]) (N := ["script", "deck", "rows", "lines", "lexicon", "told", "at", "got", "kind", "near", "far", "person", "other", "due", "k", "numbers", "first", "second", "bent", "reasons", "least", "many", "word"]) (sc := defScope s_law) (by decide +kernel)) (fun _ _ _ _ _ => (pg_name (i := 22) sc_law.nd rfl (.inl rfl))) (fun _ _ _ _ _ => (pts_one (pt_cmpR (show OpR _ _ (rIn K true) from op_notIn_seq) (pv 22) (pe_op (show OpR _ _ (rCatA K) from op_catA) (ExS.pe_cX C_closed_words hr (by omega) rfl ExS.pass0S (pa_cons pe_str pa_nil)) (ExS.pe_cX C_closed_words hr (by omega) rfl ExS.pass0S (pa_cons pe_str pa_nil))) (by rfl)))) (fun _ _ _ _ _ => (pv 22))) pa_nil)) pe_int (nomark _)) (pw_or1 (pt_cmpR op_ne (pe_lenSetS rfl rfl T.n_len rfl T.n_set (pv 15)) pe_int (nomark _)))))
      (pss_one (ps_ret pe_bl))
      pss_nil)
    (pss_one (ps_ret (pe_cmpR (op_eqD hr.units) (LX.pe_c0 C__law_languages hr (by omega) rfl) (pe_op op_rep (pe_lst (pa_cons (pe_tup (pa_cons pe_str (pa_cons pe_int pa_nil))) pa_nil)) pe_int) (nomark _)))))))))))))))))))))))))))), ?_⟩
    refine ⟨_, rfl, a, ns, 60, 14, rfl, hS, h63, by omega, by omega, by omega, fun H1 p s1 np hd1 => ?_⟩
    -- rows
    refine ⟨_, rfl, by show 4 ≤ sizeLine; decide, fun t nt => ⟨p, t, rfl, hd1.same (same_upd nt), .inl (.inl upd_same), fun H2 m rows k2 hd2 nm hm hrows h1 h15 => ?_⟩⟩
    have hsh : Short rows := rows_short hrows
    -- lines
    refine ⟨_, rfl, m, rows, rfl, hm, by omega, hsh, fun H3 ml s3 nml hml => ?_⟩
    have hd3 := hd2.same s3
    have hm3 : RowsAt H3 m rows := hm.same s3
    -- lexicon
    refine ⟨_, rfl, p, 2, rfl, by decide, hd3, fun H4 r4 k4 hd4 r40 r41 => ?_⟩
    have mp : m ≠ p := fun z => by
      obtain ⟨ds, e, _⟩ := hd1.same (same_upd (o := HO.tup [V.int 5, V.int 4, V.int 3, V.int 3]) nt)
      rw [z, e] at nm; cases nm
    have lp : ml ≠ p := Ne.symm (hd2.ne nml)
    have hml4 : Lines H4 ml rows := k4 _ _ hml lp
    have hm4 : RowsAt H4 m rows := by
      obtain ⟨vs, e1, e2⟩ := hm3
      obtain ⟨ds, e3, _⟩ := hd3
      exact ⟨vs, k4 _ _ e1 mp, e2.kpt (.of e3 (fun _ z => by cases z) k4)⟩
    have built : Built [] (rows.map lineOf) rows := hrows.built
    have llen : (rows.map lineOf).length ≤ 15 := by rw [List.length_map]; exact h15
    have lshort : ∀ l ∈ rows.map lineOf, l.length ≤ 5000 := fun l hl => by
      obtain ⟨r, hr, rfl⟩ := List.mem_map.mp hl
      exact line_short (hrows.all r hr)
    refine ⟨rfl, _, rfl, ite3 (fun v H' => ∃ qa, v = .ref qa ∧ (H' qa = some (.lst (txt (rows.map lineOf))) ∨ H' qa = some (.tup (txt (rows.map lineOf)))) ∧ Same H4 H') ?_ ?_ ?_⟩
    · exact fun _ K2 kk => ⟨_, rfl, kk _ _ ⟨ml, rfl, .inl hml4, fun _ _ h => h⟩⟩
    · exact fun _ K2 kk => ⟨_, rfl, ml, _, rfl, .inl ⟨.inl (.inl hml4), fun q2 nq2 => kk _ _ ⟨q2, rfl, .inr upd_same, same_upd nq2⟩⟩⟩
    rintro v H5 ⟨qa, rfl, hq, s5⟩
    refine fun x dx nx ndx hne => ?_
    have s56 : ∀ {o1 o2 : HO}, Same H5 (upd (upd H5 dx o1) x o2) := fresh_new nx ndx
    refine ⟨x, qa, dx, rows.map lineOf, rfl, upd_same, hq.imp (fun h => .inl (.inl (s56 _ _ h))) (fun h => .inl (.inl (s56 _ _ h))), ?_, lshort, by omega, fun _ rows2 b2 H6 lt ld f6 lx nlt nld => ⟨rfl, ?_⟩, fun _ z k fl => (built_no built fl).elim, fun z => absurd z (by omega)⟩
    · rcases hq with h | h <;> exact ne_of_none h nx
    obtain rfl := built_one built b2
    have s6 : Same H4 H6 := s5.trans fun b o h => f6 _ _ (s56 _ _ h) (ne_of_none h nx)
    have L6 : LS C p m ml x lt ld rows H6 := ⟨hd4.same s6, hm4.same s6, s6 _ _ hml4, lx, mp, lp, fun z => by
      obtain ⟨ds, e, _⟩ := (hd4.same s5).same (s56 (o1 := HO.own x) (o2 := HO.ins C dx []))
      rw [z, e] at nlt; cases nlt⟩
    clear k2 k4 hd2 hm nm hd3 hm3 hd4 hml nml s3 hml4 hm4
    -- told
    have lateB : ∀ {H' : Hp} {b : Addr}, Deck H' p → H' b = none → b ≠ p := fun hd nb z => by
      obtain ⟨ds, e, _⟩ := hd
      rw [z, e] at nb; cases nb
    obtain ⟨vs, hmv, hen⟩ := L6.rw
    have vl : vs.length = rows.length := hen.1
    have thD : Dp K H6 (.ref aT) (rowD thingE) := .tup (.inr (CN.t_THING)) (.cons (.str _) (.cons (.str _) (.cons (.str _) (.cons .non .nil))))
    refine ⟨1, rfl, _, rfl, m, vs, rfl, .inl (.inl (.inl hmv)), -1, (vs.length : Int), rfl, ⟨by omega, by omega, by omega, by omega⟩, fun D nD => ?_⟩
    rw [show (((vs.length : Nat) : Int) - (-1)).toNat = rows.length + 1 by omega]
    refine lc_range (lo := -1) (n := rows.length + 1) (fun i H' => Same H6 H' ∧ ∃ us, H' D = some (.lst us) ∧ ItemsR aT H' us ((thingE :: rows).take i)) ⟨same_upd nD, [], upd_same, .nil⟩ ?_ ?_
    · rintro i H' hi ⟨z, us, hD, hu⟩
      have ul := hu.len
      obtain ⟨dx', vs', kvs, e1, _⟩ := L6.lx
      have next : ∀ v r, (thingE :: rows)[i]? = some r → ItemR aT H' v r → ∃ acc, H' D = some (.lst acc) ∧ acc.length < sizeLine ∧ (Same H6 (upd H' D (.lst (acc ++ [v]))) ∧ ∃ us, (upd H' D (.lst (acc ++ [v]))) D = some (.lst us) ∧ ItemsR aT (upd H' D (.lst (acc ++ [v]))) us ((thingE :: rows).take (i + 1))) := fun v r hr hv => by
        refine ⟨us, hD, ?_, same_mut z nD, _, upd_same, ?_⟩
        · rw [ul, List.length_take]; exact szl (by omega)
        · rw [List.take_add_one, hr]
          have kt : ∀ {o : HO}, KpT H' (upd H' D o) := fun {o} b xs h => by
            rw [upd_ne (fun z => by rw [z, hD] at h; cases h)]; exact h
          exact (ItemsR.snoc hv hu).kpt kt
      refine ⟨rfl, _, rfl, x, dx', _, rfl, z _ _ e1, by rfl, _, rfl, ⟨x, lt, ld, rows, _, rfl, L6.lx.same z, ?_⟩⟩
      cases i with
      | zero => exact .inl ⟨rfl, next _ _ rfl (.inl ⟨rfl, rfl⟩)⟩
      | succ i =>
        obtain ⟨r, hr⟩ : ∃ r, rows[i]? = some r := ⟨_, List.getElem?_eq_getElem (by omega)⟩
        exact .inr ⟨i, r, by omega, hr, fun q' hq' => next _ r (by simpa using hr) (.inr ⟨q', rfl, hq'⟩)⟩
    · rintro H7 ⟨s7, us, hD, hu⟩
      rw [List.take_of_length_le (by simp)] at hu
      have L7 := L6.same s7
      have am : ∀ r ∈ thingE :: rows, r ∈ thingE :: allRows := all_mem hrows
      obtain ⟨dx7, vs7, kvs7, e7, _⟩ := L7.lx
      have told7 : Dp K H7 (.ref D) (rowsD (thingE :: rows)) := .lst (.inl (.inl hD)) (hu.dp (dp_mono s7 _ _ thD))
      have tok : okD 2 (rowsD (thingE :: rows)) := rowsD_ok (by simp; omega)
      have tsh := rowsD_shaped am
      refine ⟨fun σ' H' => σ' = [some (.ref a), some (.ref p), some (.ref m), some (.ref ml), some (.ref x), some (.ref D), none, none, none, none, none, none, none, none, none, none, none, none, none, none, none, none, none] ∧ LS C p m ml x lt ld rows H', ?_, ?_⟩
      · refine ⟨_, rfl, x, dx7, _, rfl, e7, by rfl, ⟨x, lt, ld, rows, rfl, L7.lx, by omega, ?_⟩⟩
        refine ⟨_, rfl, m, vs, rfl, .inl (.inl (.inl (s7 _ _ hmv))), rfl, _, rfl, ?_⟩
        rw [vl, decide_eq_true rfl]
        refine iteF ?_
        refine ⟨_, rfl, .ref D, _, rfl, told7, tok, fun H8 v8 s8 n8 => ?_⟩
        refine ⟨by show 4 ≤ sizeLine; decide, fun t1 nt1 => ⟨by show 1 ≤ sizeLine; decide, fun l1 nl1 => ⟨_, rfl, ?_⟩⟩⟩
        generalize hG : upd (upd H8 t1 _) l1 _ = H9
        have s89 : Same H8 H9 := by rw [← hG]; exact (same_upd nt1).trans (same_upd nl1)
        have hl1 : H9 l1 = some (.lst [.ref t1]) := by rw [← hG]; exact upd_same
        have ht1 : H9 t1 = some (.tup (rowV thingE)) := by rw [← hG]; exact same_upd nl1 _ _ (upd_same.trans (by rfl))
        clear hG
        have s69 := s7.trans (s8.trans s89)
        refine ⟨l1, m, _, _, rfl, rfl, hl1, s69 _ _ hmv, by rw [vl]; exact szL (by show 1 + rows.length ≤ 100000; omega), fun l3 n3 => ?_⟩
        have s9l : Same H9 (upd H9 l3 (.lst ([V.ref t1] ++ vs))) := same_upd n3
        refine ⟨.ref l3, rowsD (thingE :: rows), rfl, .lst (.inl (.inl upd_same)) (.cons (rowD_dp (s9l _ _ ht1)) (ents_dp (hen.same (s69.trans s9l)))), tok, fun H10 v10 s10 n10 => ?_⟩
        refine ⟨_, _, dp_mono (s89.trans (s9l.trans s10)) _ _ n8.dp, n10.dp, tsh, tsh, _, rfl, ?_⟩
        rw [eqv_of tsh]
        exact iteF ⟨rfl, (((L7.same s8).same s89).same s9l).same s10⟩
      rintro σ' H11 ⟨rfl, L11⟩
      clear told7 hu
      obtain ⟨dx11, _, _, e11, _⟩ := L11.lx
      have lok : okD 2 (linesD rows) := linesD_ok (by omega)
      have lsh := linesD_shaped (fun r hr => am r (List.mem_cons_of_mem _ hr))
      have linesDp : ∀ {H' : Hp} {g : Addr}, Lines H' g rows → Dp K H' (.ref g) (linesD rows) := fun h => .lst (.inl (.inl h)) (txt_dp rows)
      refine ⟨_, rfl, x, dx11, _, rfl, e11, by rfl, ⟨x, lt, ld, rows, rfl, L11.lx, by omega, hsh, fun H12 g s12 ng hg => ?_⟩⟩
      refine ⟨_, rfl, .ref g, linesD rows, rfl, linesDp hg, lok, fun H13 v13 s13 n13 => ⟨_, rfl, .ref ml, linesD rows, rfl, linesDp (s13 _ _ (s12 _ _ L11.ln)), lok, fun H14 v14 s14 n14 => ⟨_, _, dp_mono s14 _ _ n13.dp, n14.dp, lsh, lsh, _, rfl, ?_⟩⟩⟩
      rw [eqv_of lsh]
      refine iteF ?_
      have s24 := s13.trans s14
      refine ⟨_, rfl, .ref g, rfl, .inr ⟨g, _, _, 1, rfl, rfl, s24 _ _ hg, txt_dp rows, fun d hd => (by obtain ⟨r, _, rfl⟩ := List.mem_map.mp hd; exact True.intro), by unfold txt; rw [List.length_map]; omega, fun H15 k15 hg15 => ?_⟩⟩
      have L15 : LS C p m ml x lt ld rows H15 := L11.same fun b o e => k15 _ _ (s24 _ _ (s12 _ _ e)) (ne_of_none e ng)
      obtain ⟨dx15, _, _, e15, _⟩ := L15.lx
      refine ⟨_, rfl, x, dx15, _, rfl, e15, by rfl, ⟨x, lt, ld, rows, rfl, L15.lx, by omega, hsh, fun H16 g2 s16 ng2 hg2 => ?_⟩⟩
      refine ⟨.ref g2, linesD rows, rfl, linesDp hg2, lok, fun H17 v17 s17 n17 => ⟨_, rfl, .ref ml, linesD rows, rfl, linesDp (s17 _ _ (s16 _ _ L15.ln)), lok, fun H18 v18 s18 n18 => ⟨_, _, dp_mono s18 _ _ n17.dp, n18.dp, lsh, lsh, _, rfl, ?_⟩⟩⟩
      rw [eqv_of lsh]
      refine iteF ?_
      have L18 := ((L15.same s16).same s17).same s18
      clear k15 hg15 s24 n13 n14 n17 n18
      obtain ⟨ws, hmw, hew⟩ := L18.rw
      have wl : ws.length = rows.length := hew.1
      refine ⟨_, rfl, m, ws, rfl, .inl (.inl (.inl hmw)), (ws.length : Int), rfl, by omega, by omega, ?_⟩
      rw [show ((ws.length : Nat) : Int).toNat = rows.length by omega]
      refine for_range (lo := 0) (n := rows.length) (fun i σ H' => ∃ y6 y8 y9 y10 y11 y12 y13 y14 y15 : Option V, σ = [some (.ref a), some (.ref p), some (.ref m), some (.ref ml), some (.ref x), some (.ref D), y6, some (.ref g), y8, y9, y10, y11, y12, y13, y14, y15, none, none, none, none, none, none, none] ∧ LS C p m ml x lt ld rows H') ?_ ?_ ?_
      · exact ⟨_, _, _, _, _, _, _, _, _, rfl, L18⟩
      · rintro i σ H1 hi ⟨y6, y8, y9, y10, y11, y12, y13, y14, y15, rfl, L1⟩
        clear L18 hmw hew wl
        obtain ⟨r, hri⟩ : ∃ r, rows[i]? = some r := ⟨_, List.getElem?_eq_getElem hi⟩
        obtain ⟨ws, hmw, hew⟩ := L1.rw
        obtain ⟨aq, ha1, ha2⟩ := hew.2 _ _ hri
        have hall : r ∈ allRows := hrows.all r (List.mem_of_getElem? hri)
        rw [show (0 : Int) + (i : Nat) = (i : Nat) by omega]
        refine ⟨_, rfl, _, rfl, m, ws, (i : Nat), .ref aq, rfl, rfl, .inl (.inl hmw), atI_ofNat (by omega) (by simpa using ha1), ?_⟩
        refine ⟨aq, _, rfl, .inl (.inl ha2), rfl, _, _, rfl, _, _, rfl, _, _, rfl, _, _, rfl, rfl, ?_⟩
        -- other
        refine ⟨by show 4 ≤ sizeLine; decide, fun l nl => ⟨_, rfl, p, 4, rfl, by decide, L1.dk.same (same_upd nl), fun H2 o k2 hd2 o0 o1 => ?_⟩⟩
        have L2 := (L1.same (same_upd nl)).kp k2 hd2
        obtain ⟨ow, hol⟩ : ∃ ow, ["noun", "adj", "verb", "name"][o.toNat]? = some ow := ⟨_, List.getElem?_eq_getElem (by show o.toNat < 4; omega)⟩
        have lnp : l ≠ p := by
          obtain ⟨ds, e, _⟩ := L1.dk
          exact fun z => by rw [z, e] at nl; cases nl
        have hl2 : H2 l = some (.lst (["noun", "adj", "verb", "name"].map tx)) := k2 _ _ (upd_same.trans (by rfl)) lnp
        refine ⟨l, _, o, tx ow, rfl, rfl, .inl (.inl hl2), atI_ofNat o0 (by rw [List.getElem?_map, hol]; rfl), ?_⟩
        -- due
        clear hmw hew ha1 ha2
        obtain ⟨ws, hmw, hew⟩ := L2.rw
        have wl : ws.length = rows.length := hew.1
        refine ⟨_, rfl, m, ws, rfl, .inl (.inl (.inl hmw)), (ws.length : Int), rfl, by omega, by omega, fun D2 nD2 => ?_⟩
        rw [show ((ws.length : Nat) : Int).toNat = rows.length by omega]
        refine lc_range (lo := 0) (n := rows.length) (fun j H' => Same H2 H' ∧ H' D2 = some (.lst (((List.range j).filter (dueP rows (sN ow) r.n)).map fun k => V.int (k : Nat)))) ⟨same_upd nD2, upd_same⟩ ?_ ?_
        · rintro j H' hj ⟨z, hD2⟩
          obtain ⟨r2, hr2⟩ : ∃ r2, rows[j]? = some r2 := ⟨_, List.getElem?_eq_getElem hj⟩
          obtain ⟨aq2, hb1, hb2⟩ := hew.2 _ _ hr2
          rw [show (0 : Int) + (j : Nat) = (j : Nat) by omega]
          refine ⟨rfl, _, rfl, _, rfl, m, ws, (j : Nat), .ref aq2, rfl, rfl, .inl (.inl (z _ _ hmw)), atI_ofNat (by omega) (by simpa using hb1), ?_⟩
          have c4 : ¬ (HT.sIx (rowV r2).length 0 none = 0 ∧ HT.sIx (rowV r2).length (rowV r2).length (some 2) = (rowV r2).length) := fun w => by
            rw [show (rowV r2).length = 4 from rfl] at w
            exact absurd w.2 (by decide)
          refine ⟨2, rfl, aq2, rowV r2, rfl, .inl (.inl (z _ _ hb2)), fun w => absurd w c4, fun _ p2 np2 => ⟨_, rfl, _, rfl, by show 2 ≤ sizeLine; decide, fun p3 np3 => ?_⟩⟩
          have a2 := all_small r2 (List.mem_cons_of_mem _ (hrows.all r2 (List.mem_of_getElem? hr2)))
          have a1 := all_small r (List.mem_cons_of_mem _ hall)
          have s23 : Same H' (upd (upd H' p2 (.tup (cutV (rowV r2) none (some 2)))) p3 (.tup [tx ow, .str (S r.n)])) := (same_upd np2).trans (same_upd np3)
          refine ⟨.tuple [.str (S r2.k), .str (S r2.n)], .tuple [.str (S (sN ow)), .str (S r.n)], .tup (.inl (.inl (same_upd np3 _ _ (upd_same.trans (by rfl))))) (.cons (.str _) (.cons (.str _) .nil)), .tup (.inl (.inl upd_same)) (.cons (by rw [tx_S]; exact .str _) (.cons (.str _) .nil)), pair_shaped a2.1 a2.2.1, pair_shaped (kinds_small ow (List.mem_of_getElem? hol)) a1.2.1, _, rfl, ?_⟩
          rw [pair_eqv]
          have hP : dueP rows (sN ow) r.n j = (decide (r2.k = sN ow) && decide (r2.n = r.n)) := by unfold dueP; rw [hr2]
          rw [← hP]
          have hD3 := s23 _ _ hD2
          generalize upd (upd H' p2 _) p3 _ = H3 at s23 hD3
          cases hq : dueP rows (sN ow) r.n j with
          | true =>
            refine iteT ⟨_, rfl, _, hD3, ?_, same_mut (z.trans s23) nD2, ?_⟩
            · have := List.length_filter_le (dueP rows (sN ow) r.n) (List.range j)
              rw [List.length_range] at this
              rw [List.length_map]
              exact szl (by omega)
            · rw [upd_same, List.range_succ, List.filter_append, List.map_append]
              show _ = some (HO.lst (_ ++ List.map _ (List.filter _ [j])))
              rw [List.filter_cons, hq]
              rfl
          | false =>
            refine iteF ⟨z.trans s23, ?_⟩
            rw [hD3, List.range_succ, List.filter_append]
            show _ = some (HO.lst (List.map _ (_ ++ List.filter _ [j])))
            rw [List.filter_cons, hq]
            show _ = some (HO.lst (List.map _ (_ ++ [])))
            rw [List.append_nil]
        · rintro H3 ⟨s3, hD3⟩
          have hdue : H3 D2 = some (.lst ((due rows (sN ow) r.n).map fun k => V.int (k : Nat))) := hD3
          have L3 := L2.same s3
          obtain ⟨dx3, _, _, e3, _⟩ := L3.lx
          have near_in : sN "near" ∈ ["near", "far"].map sN := by simp
          have far_in : sN "far" ∈ ["near", "far"].map sN := by simp
          refine ⟨_, rfl, x, dx3, _, rfl, e3, by rfl, _, rfl, _, rfl, ⟨x, lt, ld, rows, r.k, sN "near", r.n, by rw [← S_sN] <;> rfl, L3.lx, near_in, fun H4 v1 s4 n1 => ?_⟩⟩
          obtain rfl := num_near hrows hri n1
          have L4 := L3.same s4
          refine ⟨_, rfl, x, dx3, _, rfl, s4 _ _ e3, by rfl, _, rfl, _, rfl, ⟨x, lt, ld, rows, r.k, sN "far", r.f, by rw [← S_sN] <;> rfl, L4.lx, far_in, fun H5 v2 s5 n2 => ?_⟩⟩
          obtain rfl := num_far hrows hri n2
          have L5 := L4.same s5
          refine ⟨_, rfl, x, dx3, _, rfl, s5 _ _ (s4 _ _ e3), by rfl, _, rfl, _, rfl, ⟨x, lt, ld, rows, sN ow, sN "near", r.n, by rw [tx_S, ← S_sN "near"] <;> rfl, L5.lx, near_in, fun H6 v3 s6 n3 => ?_⟩⟩
          obtain rfl := num_due hrows hri n3
          have L6 := L5.same s6
          obtain ⟨dk1, dk2, dk3⟩ := dueD_ok (rows := rows) (o := sN ow) (n := r.n) (m := 1)
          refine ⟨by show 3 ≤ sizeLine; decide, fun N nN => ?_⟩
          have s36 := s4.trans (s5.trans s6)
          refine ⟨_, rfl, .ref N, numD i (dueD rows (sN ow) r.n), rfl, .lst (.inl (.inl upd_same)) (.cons (.int _) (.cons (.int _) (.cons dueD_dp .nil))), numD_ok dk1, fun H8 v8 s8 n8 => ?_⟩
          have s67 : Same H6 H8 := (same_upd nN).trans s8
          have hdue8 := s67 _ _ (s36 _ _ hdue)
          have L8 := L6.same s67
          refine ⟨_, rfl, _, rfl, _, rfl, D2, _, rfl, .inl (.inl (.inl hdue8)), _, _, rfl, rfl, _, rfl, ite3 (fun v H' => v = dueV rows (sN ow) r.n ∧ H' = H8) ?_ ?_ ?_⟩
          · intro hb K2 kk
            have hb' := of_decide_eq_true hb
            rw [List.length_map] at hb'
            obtain ⟨j0, js, hj⟩ : ∃ j0 js, due rows (sN ow) r.n = j0 :: js := by
              cases e : due rows (sN ow) r.n with
              | nil => rw [e] at hb'; exact absurd hb' (by decide)
              | cons j0 js => exact ⟨j0, js, rfl⟩
            refine ⟨_, rfl, D2, _, 0, .int (j0 : Nat), rfl, rfl, .inl (.inl hdue8), ?_, kk _ _ ⟨?_, rfl⟩⟩
            · rw [hj]; exact atI_ofNat (i := 0) (by decide) rfl
            · unfold dueV; rw [hj]; rfl
          · intro hb K2 kk
            have hb' := of_decide_eq_false hb
            rw [List.length_map] at hb'
            refine kk _ _ ⟨?_, rfl⟩
            have : due rows (sN ow) r.n = [] := by
              cases e : due rows (sN ow) r.n with
              | nil => rfl
              | cons j0 js => rw [e] at hb'; exact absurd (by rw [List.length_cons]; omega) hb'
            unfold dueV; rw [this]; rfl
          rintro v H9 ⟨rfl, rfl⟩
          have nsh := numD_shaped (i := i) dk2 dk3
          refine ⟨by show 3 ≤ sizeLine; decide, fun N2 nN2 => ⟨.ref N2, numD i (dueD rows (sN ow) r.n), rfl, .lst (.inl (.inl upd_same)) (.cons (.int _) (.cons (.int _) (.cons dueD_dp .nil))), numD_ok dk1, fun H10 v10 s10 n10 => ⟨_, _, dp_mono ((same_upd nN2).trans s10) _ _ n8.dp, n10.dp, nsh, nsh, _, rfl, ?_⟩⟩⟩
          rw [eqv_of nsh]
          exact iteF ⟨_, _, _, _, _, _, _, _, _, rfl, L8.same ((same_upd nN2).trans s10)⟩
      · rintro σ H1 ⟨y6, y8, y9, y10, y11, y12, y13, y14, y15, rfl, L1⟩
        have no_thing : ∀ (i : Nat) (r : Ent), rows[i]? = some r → r.n ≠ sN "thing" ∧ r.f ≠ sN "jukk" := fun i r h => by
          obtain ⟨_, _, b1, b2, _⟩ := all_fit r (hrows.all r (List.mem_of_getElem? h))
          exact ⟨b1, b2⟩
        have thN : ∀ v, NumIs rows (sN "noun") (sN "near") (sN "thing") v → v = .int (-1) := fun v n => by
          rcases n with ⟨_, z⟩ | ⟨z, _⟩ | ⟨j, q, rfl, hj, z⟩
          · exact absurd (.inl ⟨rfl, .inl ⟨rfl, rfl⟩⟩) z
          · exact z
          · rcases z.2 with ⟨_, z2⟩ | ⟨z2, _⟩
            · exact absurd z2 (no_thing j q hj).1
            · exact absurd z2 near_far
        have thF : ∀ v, NumIs rows (sN "noun") (sN "far") (sN "jukk") v → v = .int (-1) := fun v n => by
          rcases n with ⟨_, z⟩ | ⟨z, _⟩ | ⟨j, q, rfl, hj, z⟩
          · exact absurd (.inl ⟨rfl, .inr ⟨rfl, rfl⟩⟩) z
          · exact z
          · rcases z.2 with ⟨z2, _⟩ | ⟨_, z2⟩
            · exact absurd z2.symm near_far
            · exact absurd z2 (no_thing j q hj).2
        refine ⟨fun σ' H' => σ' = [some (.ref a), some (.ref p), some (.ref m), some (.ref ml), some (.ref x), some (.ref D), y6, some (.ref g), y8, y9, y10, y11, y12, y13, y14, y15, none, none, none, none, none, none, none] ∧ LS C p m ml x lt ld rows H', ?_, ?_⟩
        · obtain ⟨dx1, _, _, e1, _⟩ := L1.lx
          refine ⟨_, rfl, x, dx1, _, rfl, e1, by rfl, ⟨x, lt, ld, rows, sN "noun", sN "near", sN "thing", by rw [← S_sN, ← S_sN, ← S_sN] <;> rfl, L1.lx, by simp, fun H2 v1 s2 n1 => ?_⟩⟩
          obtain rfl := thN _ n1
          refine ⟨1, rfl, rfl, _, rfl, ?_⟩
          rw [show decide (V.int (-1) = V.int (-1)) = true from decide_eq_true rfl]
          refine iteF ?_
          refine ⟨_, rfl, x, dx1, _, rfl, s2 _ _ e1, by rfl, ⟨x, lt, ld, rows, sN "noun", sN "far", sN "jukk", by rw [← S_sN, ← S_sN, ← S_sN] <;> rfl, L1.lx.same s2, by simp, fun H3 v2 s3 n2 => ?_⟩⟩
          obtain rfl := thF _ n2
          refine ⟨1, rfl, rfl, _, rfl, ?_⟩
          rw [show decide (V.int (-1) = V.int (-1)) = true from decide_eq_true rfl]
          exact iteF ⟨rfl, (L1.same s2).same s3⟩
        rintro σ' H2 ⟨rfl, L2⟩
        clear L1
        obtain ⟨ws, hmw, hew⟩ := L2.rw
        have wl : ws.length = rows.length := hew.1
        -- first, second
        refine ⟨_, rfl, _, rfl, m, ws, rfl, .inl (.inl (.inl hmw)), p, (ws.length : Int), rfl, by omega, L2.dk, fun H3 fi k3 hd3 f0 f1 => ?_⟩
        obtain ⟨fn, rfl⟩ : ∃ fn : Nat, fi = (fn : Int) := ⟨fi.toNat, by omega⟩
        have L3 := L2.kp k3 hd3
        refine ⟨_, rfl, _, rfl, m, ws, rfl, .inl (.inl (.inl (k3 _ _ hmw L2.pm))), p, (ws.length : Int), rfl, by omega, L3.dk, fun H4 se k4 hd4 g0 g1 => ?_⟩
        obtain ⟨sn, rfl⟩ : ∃ sn : Nat, se = (sn : Int) := ⟨se.toNat, by omega⟩
        have L4 := L3.kp k4 hd4
        have hmw4 : H4 m = some (.lst ws) := k4 _ _ (k3 _ _ hmw L2.pm) L2.pm
        rw [wl] at f1 g1
        have hfn : fn < rows.length := by omega
        have hsn : sn < rows.length := by omega
        -- bent, reasons
        refine ⟨_, rfl, ml, _, rfl, .inl (.inl (.inl L4.ln)), fun ba nba => ?_⟩
        have L5 := L4.same (same_upd (o := HO.lst (txt (rows.map lineOf))) nba)
        refine fun ra nra => ?_
        have hba : (upd (upd H4 ba (.lst (txt (rows.map lineOf)))) ra (.dK [])) ba = some (.lst (txt (rows.map lineOf))) := same_upd nra _ _ upd_same
        have L6 := L5.same (same_upd (o := HO.dK []) nra)
        have hra : (upd (upd H4 ba (.lst (txt (rows.map lineOf)))) ra (.dK [])) ra = some (.dK []) := upd_same
        generalize upd (upd H4 ba _) ra _ = H6 at hba L6 hra
        have bp : ba ≠ p := lateB L4.dk nba
        have rp : ra ≠ p := lateB L5.dk nra
        have bm : m ≠ ba := ne_of_none hmw4 nba
        have br : ba ≠ ra := fun z => by rw [z, hra] at hba; cases hba
        refine ⟨_, rfl, _, rfl, by show 2 ≤ sizeLine; decide, fun tt ntt => ⟨tt, rfl, ⟨_, .inl (.inl upd_same)⟩, ?_⟩⟩
        have s67 : Same H6 (upd H6 tt (.tup [.int (sn : Int), .int (fn : Int)])) := same_upd ntt
        refine for_tup (xs := [V.int (sn : Int), V.int (fn : Int)]) (fun i σ H' => ∃ (y6 : Option V) (B : List (List Nat)) (kvs : List (Key × V)), σ = [some (.ref a), some (.ref p), some (.ref m), some (.ref ml), some (.ref x), some (.ref D), y6, some (.ref g), y8, y9, y10, y11, y12, y13, y14, y15, some (.int (fn : Int)), some (.int (sn : Int)), some (.ref ba), some (.ref ra), none, none, none] ∧
          RowsAt H' m rows ∧ Deck H' p ∧ H' ba = some (.lst (txt B)) ∧ H' ra = some (.dK kvs) ∧ H' tt = some (.tup [.int (sn : Int), .int (fn : Int)]) ∧ Bent rows ([sn, fn].take i) B kvs) ?_ ?_ ?_ ?_
        · exact ⟨_, _, _, rfl, L6.rw.same s67, L6.dk.same s67, s67 _ _ hba, s67 _ _ hra, upd_same, by rw [List.length_map], Nat.zero_le _, fun k _ => rfl, fun k hk => by cases hk⟩
        · rintro i σ H' _ ⟨_, _, _, _, _, _, _, _, h, _⟩
          exact .inl (.inl h)
        · rintro i z σ H' hz ⟨y6, B, kvs, rfl, hm', hd', hb', hr', ht', bt⟩
          obtain ⟨k, hk, hzk, hlt⟩ : ∃ k, [sn, fn][i]? = some k ∧ z = .int (k : Nat) ∧ k < rows.length := by
            match i, hz with
            | 0, hz => exact ⟨sn, rfl, (Option.some.inj hz).symm, hsn⟩
            | 1, hz => exact ⟨fn, rfl, (Option.some.inj hz).symm, hfn⟩
            | i + 2, hz => simp at hz
          subst hzk
          refine ⟨_, rfl, _, rfl, _, rfl, p, m, k, rows, rfl, hd', hm', hrows, by omega, hlt, fun H8 wq why text k8 hd8 nwq hwq tl ad => ?_⟩
          have hb8 := k8 _ _ hb' bp
          have hr8 := k8 _ _ hr' rp
          have ht8 := k8 _ _ ht' (fun z => by
            obtain ⟨ds, e, _⟩ := hd'
            rw [z, e] at ht'; cases ht')
          have hm8 : RowsAt H8 m rows := by
            obtain ⟨us', e1, e2⟩ := hm'
            obtain ⟨ds, e3, _⟩ := hd'
            exact ⟨us', k8 _ _ e1 mp, e2.kpt (.of e3 (fun _ z => by cases z) k8)⟩
          have ix : ixN (txt B).length (k : Int) = some k := by
            unfold ixN txt
            rw [List.length_map, bt.len, if_pos (by omega), if_pos (by omega)]
            simp
          have bt2 := bt.step hlt tl ad
          have n1 : ∀ {o : HO} {b : Addr}, H8 b = some o → b ≠ ba → b ≠ ra → ∀ {o1 o2 : HO}, upd (upd H8 ba o1) ra o2 b = some o := fun h n1 n2 => by intro o1 o2; rw [upd_ne n2, upd_ne n1]; exact h
          have kt : ∀ {o1 o2 : HO}, KpT H8 (upd (upd H8 ba o1) ra o2) := fun b xs h => n1 h (fun z => by rw [z, hb8] at h; cases h) (fun z => by rw [z, hr8] at h; cases h)
          refine ⟨wq, _, rfl, .inl (.inl hwq), rfl, _, _, rfl, _, rfl, _, rfl, ba, txt B, (k : Nat), k, rfl, rfl, hb8, ix, _, _, rfl, _, rfl, _, rfl, ra, _, rfl, DPut.k (k := .inl (k : Int)) (by rw [upd_ne (Ne.symm br)]; exact hr8) ?_, rfl, ?_⟩
          · have := bt.kl
            have h2 : ([sn, fn].take i).length ≤ 2 := by rw [List.length_take]; exact Nat.min_le_right _ _
            exact szl (by show kvs.length < 100000; omega)
          · refine ⟨_, B.set k text, _, rfl, ?_, ?_, ?_, upd_same, ?_, ?_⟩
            · obtain ⟨us', e1, e2⟩ := hm8
              refine ⟨us', n1 e1 ?_ ?_, e2.kpt kt⟩
              · exact bm
              · rintro rfl
                rw [hr8] at e1; cases e1
            · obtain ⟨ds, e1, e2⟩ := hd8
              exact ⟨ds, n1 e1 (Ne.symm bp) (Ne.symm rp), e2⟩
            · rw [upd_ne br, upd_same, txt_set]
            · refine n1 ht8 ?_ ?_
              · rintro rfl; rw [hb8] at ht8; cases ht8
              · rintro rfl; rw [hr8] at ht8; cases ht8
            · rw [List.take_add_one, hk]
              exact bt2
        · rintro σ H7 ⟨y6, B, kvs, rfl, hm7, hd7, hb7, hr7, ht7, bt⟩
          replace bt : Bent rows [sn, fn] B kvs := bt
          obtain ⟨ln, hln⟩ : ∃ ln : Nat, ln = min fn sn := ⟨_, rfl⟩
          obtain ⟨gn, hgn⟩ : ∃ gn : Nat, gn = max fn sn := ⟨_, rfl⟩
          have lnm : ln ∈ [sn, fn] := by simp; omega
          have gnm : gn ∈ [sn, fn] := by simp; omega
          obtain ⟨why, w1, w2, w3⟩ := bt.fails hrows lnm (by omega) (fun j hj => by simp at hj; omega)
          obtain ⟨_, why2, _, u2, _, _⟩ := bt.is gn gnm
          refine ⟨_, rfl, _, rfl, (fn : Int), (sn : Int), rfl, ?_⟩
          rw [show min (fn : Int) (sn : Int) = (ln : Int) by omega]
          have bsh := bt.short hrows
          refine ⟨fun σ' H' => ∃ b2 B', σ' = [some (.ref a), some (.ref p), some (.ref m), some (.ref ml), some (.ref x), some (.ref D), y6, some (.ref g), y8, y9, y10, y11, y12, y13, y14, y15, some (.int (fn : Int)), some (.int (sn : Int)), some (.ref b2), some (.ref ra), some (.int (ln : Int)), none, none] ∧
            Deck H' p ∧ H' b2 = some (.lst (txt B')) ∧ H' ra = some (.dK kvs) ∧ (B' = B ∨ B' = B.take (ln + 1)), ?_, ?_⟩
          · refine ⟨_, rfl, _, rfl, _, rfl, (fn : Int), (sn : Int), rfl, ra, tx why2, rfl, ?_, rfl, _, rfl, ?_⟩
            · rw [show max (fn : Int) (sn : Int) = (gn : Int) by omega, ← u2]
              exact DGet.k (k := .inl (gn : Int)) hr7
            have ecut : cutV (txt B) none (some ((ln : Int) + 1)) = txt (B.take (ln + 1)) := by
              rw [cut_take]
              unfold txt
              rw [List.map_take]
            have cutIt : ∀ {K2 : VK}, (∀ b2, H7 b2 = none → K2 (.ref b2) (upd H7 b2 (.lst (txt (B.take (ln + 1)))))) → rSlL K (.ref ba) none (some ((ln : Int) + 1)) H7 K2 := fun kk => ⟨ba, txt B, rfl, .inl (.inl hb7), fun b2 nb2 => by rw [ecut]; exact kk b2 nb2⟩
            have mid : ∀ b2, H7 b2 = none → Deck (upd H7 b2 (.lst (txt (B.take (ln + 1))))) p ∧ (upd H7 b2 (.lst (txt (B.take (ln + 1))))) b2 = some (.lst (txt (B.take (ln + 1)))) ∧ (upd H7 b2 (.lst (txt (B.take (ln + 1))))) ra = some (.dK kvs) := fun b2 nb2 => ⟨hd7.same (same_upd nb2), upd_same, same_upd nb2 _ _ hr7⟩
            cases hc : decide (tx why2 = V.str (PySem.Str.ofString "twice")) with
            | true => exact iteT (iteT ⟨_, rfl, _, rfl, (ln : Int), 1, rfl, rfl, _, rfl, cutIt fun b2 nb2 => ⟨b2, _, rfl, (mid b2 nb2).1, (mid b2 nb2).2.1, (mid b2 nb2).2.2, .inr rfl⟩⟩)
            | false =>
              refine iteF ⟨_, rfl, _, rfl, _, rfl, (fn : Int), (sn : Int), rfl, rfl, _, rfl, ?_⟩
              cases hc2 : decide (V.int (ln : Int) = V.int (max (fn : Int) (sn : Int))) with
              | true => exact iteT ⟨_, rfl, _, rfl, (ln : Int), 1, rfl, rfl, _, rfl, cutIt fun b2 nb2 => ⟨b2, _, rfl, (mid b2 nb2).1, (mid b2 nb2).2.1, (mid b2 nb2).2.2, .inr rfl⟩⟩
              | false => exact iteF ⟨ba, B, rfl, hd7, hb7, hr7, .inl rfl⟩
          rintro σ' H8 ⟨b2, B', rfl, hd8, hb8, hr8, hB⟩
          have fl : Fails [] 1 B' why (1 + ln) := by rcases hB with rfl | rfl <;> assumption
          have bsh' : ∀ l ∈ B', l.length ≤ 5000 := by
            rcases hB with rfl | rfl
            · exact bsh
            · exact fun l hl => bsh l (List.mem_of_mem_take hl)
          have bl : B'.length ≤ 40 := by
            have := bt.len
            rcases hB with rfl | rfl
            · omega
            · rw [List.length_take]; omega
          refine ⟨_, rfl, b2, B', rfl, hb8, bsh', by omega, fun _ _ bb => (built_no bb fl).elim, fun _ z k f2 H9 q1 s9 nq1 hq1 => ?_, fun z => absurd z (by omega)⟩
          obtain ⟨rfl, rfl⟩ := fails_one fl f2
          -- (reasons[least], least + 1)
          refine ⟨_, rfl, _, rfl, ra, tx why, rfl, ?_, _, rfl, (ln : Int), 1, rfl, rfl, by show 2 ≤ sizeLine; decide, fun q2 nq2 => ?_⟩
          · rw [← w1]
            exact DGet.k (k := .inl (ln : Int)) (s9 _ _ hr8)
          have wsh : SeqAt.shaped (whyD why ((ln : Int) + 1)) = true := whyD_shaped (by have := fails_why fl; simp only [List.mem_cons, List.not_mem_nil, or_false] at this ⊢; rcases this with h | h | h <;> simp [h])
          have hq1' : H9 q1 = some (.tup [tx why, .int ((ln : Int) + 1)]) := by rw [hq1, show ((1 + ln : Nat) : Int) = (ln : Int) + 1 by omega]
          have sq2 : Same H9 (upd H9 q2 (.tup [tx why, .int ((ln : Int) + 1)])) := same_upd nq2
          refine ⟨whyD why ((ln : Int) + 1), whyD why ((ln : Int) + 1), .tup (.inl (.inl (sq2 _ _ hq1'))) (.cons (.str _) (.cons (.int _) .nil)), .tup (.inl (.inl upd_same)) (.cons (.str _) (.cons (.int _) .nil)), wsh, wsh, _, rfl, ?_⟩
          rw [eqv_of wsh]
          refine iteF ?_
          have hd9 := (hd8.same s9).same sq2
          clear wsh
          -- many
          refine ⟨_, rfl, p, 3, rfl, by decide, hd9, fun H10 mr k10 hd10 m0 m1 => ⟨41, mr, rfl, rfl, ?_⟩⟩
          obtain ⟨mn, hmn⟩ : ∃ mn : Nat, 41 + mr = (mn : Int) := ⟨(41 + mr).toNat, by omega⟩
          show gName 21 (.int (41 + mr)) _ _ _
          rw [hmn]
          refine ⟨fun σ' H' => σ' = [some (.ref a), some (.ref p), some (.ref m), some (.ref ml), some (.ref x), some (.ref D), y6, some (.ref g), y8, y9, y10, y11, y12, y13, y14, y15, some (.int (fn : Int)), some (.int (sn : Int)), some (.ref b2), some (.ref ra), some (.int (ln : Int)), some (.int (mn : Int)), none], ?_, ?_⟩
          · refine ⟨by show 1 ≤ sizeLine; decide, fun l1 nl1 => ⟨_, rfl, l1, (mn : Int), _, rfl, rfl, upd_same, by omega, by omega, by rw [show ((mn : Nat) : Int).toNat = mn by omega]; exact szL (by show 1 * mn ≤ 100000; omega), fun l2 nl2 => ?_⟩⟩
            rw [show ((mn : Nat) : Int).toNat = mn by omega, rep_txt] at *
            refine ⟨l2, List.replicate mn [], rfl, upd_same, fun l hl => by rw [(List.mem_replicate.mp hl).2]; exact Nat.zero_le _, by rw [List.length_replicate]; omega, fun z => absurd z (by rw [List.length_replicate]; omega), fun z => absurd z (by rw [List.length_replicate]; omega), fun _ H11 q3 s11 nq3 hq3 => ?_⟩
            rw [List.length_replicate] at hq3
            refine ⟨_, rfl, by show 3 ≤ sizeLine; decide, fun q4 nq4 => ?_⟩
            have msh : SeqAt.shaped (manyD (mn : Int)) = true := manyD_shaped
            refine ⟨manyD (mn : Int), manyD (mn : Int), .tup (.inl (.inl (same_upd nq4 _ _ hq3))) (.cons (.str _) (.cons (.int _) (.cons (.str _) .nil))), .tup (.inl (.inl upd_same)) (.cons (.str _) (.cons (.int _) (.cons (.str _) .nil))), msh, msh, _, rfl, ?_⟩
            rw [eqv_of msh]
            refine iteF ⟨Nat.zero_le _, fun e1 ne1 => ⟨e1, [], rfl, upd_same, fun l hl => (by cases hl), Nat.zero_le _, fun _ r2 bb H12 s12 => ⟨rfl, _, rfl, iteF rfl⟩, fun _ z k f => (by cases f), fun z => absurd z (by decide)⟩⟩
          rintro σ' H11 rfl
          -- numbers
          refine ⟨aNN, _, rfl, .inr (.inr CN.t_NEAR_NUMBERS), fun l1 nl1 => ⟨aFN, _, rfl, .inr (.inr CN.t_FAR_NUMBERS), fun l2 nl2 => ⟨l1, l2, _, _, rfl, rfl, same_upd nl2 _ _ upd_same, upd_same, by show 16 ≤ sizeLine; decide, fun l3 nl3 => ?_⟩⟩⟩
          generalize hG : upd (upd (upd H11 l1 _) l2 _) l3 _ = H12
          have hl3 : H12 l3 = some (.lst (allNumbers.map tx)) := by rw [← hG, upd_same]; rfl
          clear hG
          refine ⟨fun σ' H' => True, ?_, ?_⟩
          · refine ⟨_, rfl, l3, rfl, ⟨_, .inl (.inl hl3)⟩, fun D2 nD2 => ?_⟩
            refine lc_list (xs := allNumbers.map tx) (fun i H' => Same H12 H' ∧ H' D2 = some (.lst [])) ⟨same_upd nD2, upd_same⟩ ?_ ?_ ?_
            · rintro i H' _ ⟨z, _⟩
              exact .inl (.inl (z _ _ hl3))
            · rintro i y H' hy ⟨z, hD2⟩
              rw [List.getElem?_map] at hy
              cases e : allNumbers[i]? with
              | none => rw [e] at hy; cases hy
              | some wd =>
                rw [e] at hy
                cases (show tx wd = y from Option.some.inj hy)
                have mem := numbers_closed wd (List.mem_of_getElem? e)
                refine ⟨rfl, _, rfl, true, rfl, false, rfl, aN, aF, _, _, rfl, rfl, .inr CN.t_NEAR_CLOSED, .inr CN.t_FAR_CLOSED, by show 66 ≤ sizeLine; decide, fun z => (by cases z), fun _ z => (by cases z), fun _ _ q5 nq5 => ?_⟩
                refine ⟨q5, (nearClosed ++ farClosed).map tx, rfl, .inr (.inl (.inl (upd_same.trans (by rfl)))), rfl, rfl, _, rfl, ?_⟩
                rw [tx_S, inV_tx, decide_eq_true mem]
                exact iteF ⟨z.trans (same_upd nq5), same_upd nq5 _ _ hD2⟩
            · rintro H13 ⟨s13, hD2⟩
              refine ⟨D2, [], rfl, .inl (.inl (.inl hD2)), _, _, rfl, rfl, _, rfl, ?_⟩
              refine iteF ⟨_, rfl, l3, allNumbers.map PySem.Str.ofString, rfl, .inl (.inl (by rw [s13 _ _ hl3, List.map_map]; rfl)), by show 16 ≤ 4000; decide, rfl, _, rfl, ?_⟩
              rw [numbers_uniq]
              exact iteF trivial
          rintro σ' H14 _
          refine ⟨rfl, fun H15 p2 a1 a2 a3 a4 s15 hp2 ha => ⟨by show 2 ≤ sizeLine; decide, fun t2 nt2 => ⟨by show 1 ≤ sizeLine; decide, fun l5 nl5 => ⟨l5, 4, _, rfl, rfl, upd_same, by decide, by decide, by show 1 * 4 ≤ sizeLine; decide, fun l6 nl6 => ?_⟩⟩⟩⟩
          have u1 := same_upd (o := HO.tup [tx "language", .int 0]) nt2
          have u2 := same_upd (o := HO.lst [V.ref t2]) nl5
          have u3 := same_upd (o := HO.lst (List.replicate (4 : Int).toNat [V.ref t2]).flatten) nl6
          have item : ∀ {H' : Hp} {b : Addr}, H' b = some (.tup [tx "language", .int 0]) → Dp K H' (.ref b) (whyD "language" 0) := fun h => .tup (.inl (.inl h)) (.cons (.str _) (.cons (.int _) .nil))
          have it2 := item (u3 _ _ (u2 _ _ upd_same))
          have it1 : ∀ b ∈ [a1, a2, a3, a4], Dp K _ (.ref b) (whyD "language" 0) := fun b hb => item (u3 _ _ (u2 _ _ (u1 _ _ (ha b hb))))
          refine ⟨langD, langD, .lst (.inl (.inl (u3 _ _ (u2 _ _ (u1 _ _ hp2))))) (.cons (it1 _ (by simp)) (.cons (it1 _ (by simp)) (.cons (it1 _ (by simp)) (.cons (it1 _ (by simp)) .nil)))), .lst (.inl (.inl upd_same)) (.cons it2 (.cons it2 (.cons it2 (.cons it2 .nil)))), langD_shaped, langD_shaped, ?_⟩
          rw [eqv_of langD_shaped]
          exact q _
end
end K34
set_option Elab.async false
set_option linter.all false
set_option maxRecDepth 100000
set_option maxHeartbeats 4000000
namespace K34
open PySem PySem.Spec PyProof.Rows L2 Tw Tk Lx
section
variable {P : Program} {w : World} {K : PySem.W.Frag} {mg : Str → Option Value} {base : Heap} {CT CI CL CM CX_ aL aN aF aP aT aK aNN aFN : Addr} {es : Array DictEntry} {en : Nat}
theorem main {fCX__init fCX__put fCX__size fCX__entry fCX__number fCX__lines : Addr} {f_check_language f_closed_words f_is_stem f_entry_of f__law_deck f__law_take f__law_plain f__law_spoil f__law_pools f__law_lexicon f__law_lines f__law_refusal f__law_wrong f__law_languages f_law : Addr} {d_check_language d_closed_words d_is_stem d_entry_of d__law_deck d__law_take d__law_plain d__law_spoil d__law_pools d__law_lexicon d__law_lines d__law_refusal d__law_wrong d__law_languages d_law : FuncData}
    (F_check_language : Fun K "check_language" "check_language" s_check_language f_check_language d_check_language) (b_check_language : Binds K d_check_language ["language"] []) (m_check_language : mg "check_language" = some (.ref f_check_language))
    (F_closed_words : Fun K "closed_words" "closed_words" s_closed_words f_closed_words d_closed_words) (b_closed_words : Binds K d_closed_words ["language"] []) (m_closed_words : mg "closed_words" = some (.ref f_closed_words))
    (F_is_stem : Fun K "is_stem" "is_stem" s_is_stem f_is_stem d_is_stem) (b_is_stem : Binds K d_is_stem ["word"] []) (m_is_stem : mg "is_stem" = some (.ref f_is_stem))
    (F_entry_of : Fun K "entry_of" "entry_of" s_entry_of f_entry_of d_entry_of) (b_entry_of : Binds K d_entry_of ["line"] []) (m_entry_of : mg "entry_of" = some (.ref f_entry_of))
    (F__law_deck : Fun K "_law_deck" "_law_deck" s__law_deck f__law_deck d__law_deck) (b__law_deck : Binds K d__law_deck ["script", "cells", "each"] []) (m__law_deck : mg "_law_deck" = some (.ref f__law_deck))
    (F__law_take : Fun K "_law_take" "_law_take" s__law_take f__law_take d__law_take) (b__law_take : Binds K d__law_take ["deck", "many"] []) (m__law_take : mg "_law_take" = some (.ref f__law_take))
    (F__law_plain : Fun K "_law_plain" "_law_plain" s__law_plain f__law_plain d__law_plain) (b__law_plain : Binds K d__law_plain ["value"] []) (m__law_plain : mg "_law_plain" = some (.ref f__law_plain))
    (F__law_spoil : Fun K "_law_spoil" "_law_spoil" s__law_spoil f__law_spoil d__law_spoil) (b__law_spoil : Binds K d__law_spoil ["value"] []) (m__law_spoil : mg "_law_spoil" = some (.ref f__law_spoil))
    (F__law_pools : Fun K "_law_pools" "_law_pools" s__law_pools f__law_pools d__law_pools) (b__law_pools : Binds K d__law_pools [] []) (m__law_pools : mg "_law_pools" = some (.ref f__law_pools))
    (F__law_lexicon : Fun K "_law_lexicon" "_law_lexicon" s__law_lexicon f__law_lexicon d__law_lexicon) (b__law_lexicon : Binds K d__law_lexicon ["deck", "sizes"] []) (m__law_lexicon : mg "_law_lexicon" = some (.ref f__law_lexicon))
    (F__law_lines : Fun K "_law_lines" "_law_lines" s__law_lines f__law_lines d__law_lines) (b__law_lines : Binds K d__law_lines ["rows"] []) (m__law_lines : mg "_law_lines" = some (.ref f__law_lines))
    (F__law_refusal : Fun K "_law_refusal" "_law_refusal" s__law_refusal f__law_refusal d__law_refusal) (b__law_refusal : Binds K d__law_refusal ["lines"] []) (m__law_refusal : mg "_law_refusal" = some (.ref f__law_refusal))
    (F__law_wrong : Fun K "_law_wrong" "_law_wrong" s__law_wrong f__law_wrong d__law_wrong) (b__law_wrong : Binds K d__law_wrong ["deck", "rows", "at"] []) (m__law_wrong : mg "_law_wrong" = some (.ref f__law_wrong))
    (F__law_languages : Fun K "_law_languages" "_law_languages" s__law_languages f__law_languages d__law_languages) (b__law_languages : Binds K d__law_languages [] []) (m__law_languages : mg "_law_languages" = some (.ref f__law_languages))
    (F_law : Fun K "law" "law" s_law f_law d_law)
    (T : Tx mg) (EX : Ex K mg CT CI CL CM) (M_InvalidLexicon : ExS.MkX P w K mg base 1 "InvalidLexicon" CL okIL fsIL) (M_TooMany : ExS.MkX P w K mg base 1 "TooMany" CM okTM fsTM) (CN : Cn K w mg aL aN aF aP aT aK aNN aFN es en)
    (LC : LexC K CX_) (MK : Mk K CX_ fCX__init) (gCX_ : mg "Lexicon" = some (.ref CX_))
    {dCX__init : FuncData} (FCX__init : Fun K "__init__" "Lexicon.__init__" s_Lexicon___init__ fCX__init dCX__init) (bCX__init : Binds K dCX__init ["self", "lines"] []) (tCX__init : Meth K CX_ "__init__" fCX__init)
    {dCX__put : FuncData} (FCX__put : Fun K "put" "Lexicon.put" s_Lexicon_put fCX__put dCX__put) (bCX__put : Binds K dCX__put ["self", "line", "at"] []) (tCX__put : Meth K CX_ "put" fCX__put)
    {dCX__size : FuncData} (FCX__size : Fun K "size" "Lexicon.size" s_Lexicon_size fCX__size dCX__size) (bCX__size : Binds K dCX__size ["self"] []) (tCX__size : Meth K CX_ "size" fCX__size)
    {dCX__entry : FuncData} (FCX__entry : Fun K "entry" "Lexicon.entry" s_Lexicon_entry fCX__entry dCX__entry) (bCX__entry : Binds K dCX__entry ["self", "number"] []) (tCX__entry : Meth K CX_ "entry" fCX__entry)
    {dCX__number : FuncData} (FCX__number : Fun K "number" "Lexicon.number" s_Lexicon_number fCX__number dCX__number) (bCX__number : Binds K dCX__number ["self", "kind", "language", "stem"] []) (tCX__number : Meth K CX_ "number" fCX__number)
    {dCX__lines : FuncData} (FCX__lines : Fun K "lines" "Lexicon.lines" s_Lexicon_lines fCX__lines dCX__lines) (bCX__lines : Binds K dCX__lines ["self"] []) (tCX__lines : Meth K CX_ "lines" fCX__lines) : FnOk P w K mg base CX0 7 f_law d_law ["script"] (spLaw K) := by
  have C_chk : ExS.CalX P w K mg base 3 "check_language" (spChk CL) := ⟨_, _, _, ok_chk F_check_language CN M_InvalidLexicon, m_check_language, F_check_language.kp, b_check_language⟩
  have C_clo : ExS.CalX P w K mg base 4 "closed_words" (spClosed aN aF) := ⟨_, _, _, ok_closed F_closed_words CN C_chk, m_closed_words, F_closed_words.kp, b_closed_words⟩
  have C_stem : C8.Cal P w K mg base 1 "is_stem" spStem [] := ⟨_, _, _, _, ok_stem F_is_stem T, m_is_stem, F_is_stem.kp, b_is_stem, .nil⟩
  have C_ent : C8.Cal P w K mg base 2 "entry_of" spEntry [] := ⟨_, _, _, _, ok_entry F_entry_of T CN C_stem, m_entry_of, F_entry_of.kp, b_entry_of, .nil⟩
  have m_put : LX.MetX P w K mg base 3 CX_ "put" (spPut CX_ CL) := ⟨_, _, _, LC.cl, tCX__put, ok_put FCX__put T CN LC M_InvalidLexicon C_ent, bCX__put⟩
  have K_Lex : LX.MakX P w K mg base 4 "Lexicon" CX_ (spLex K CX_ CL CM) := ⟨_, _, _, MK, ok_lexinit FCX__init T LC M_TooMany m_put, gCX_, bCX__init⟩
  have C_take : C8.Cal P w K mg base 1 "_law_take" spTake [] := ⟨_, _, _, _, ok_take F__law_take T, m__law_take, F__law_take.kp, b__law_take, .nil⟩
  have C_pools : C8.Cal P w K mg base 1 "_law_pools" spPools [] := ⟨_, _, _, _, ok_pools F__law_pools T, m__law_pools, F__law_pools.kp, b__law_pools, .nil⟩
  refine ok_law F_law T EX CN LC ⟨_, _, _, _, ok_deck F__law_deck T, m__law_deck, F__law_deck.kp, b__law_deck, .nil⟩ C_take ?_ ?_
    ⟨_, _, _, _, ok_lexi F__law_lexicon T C_pools C_take, m__law_lexicon, F__law_lexicon.kp, b__law_lexicon, .nil⟩ ⟨_, _, _, _, ok_linesL F__law_lines T, m__law_lines, F__law_lines.kp, b__law_lines, .nil⟩
    K_Lex ⟨_, _, _, LC.cl, tCX__size, ok_size FCX__size T LC, bCX__size⟩ ⟨_, _, _, LC.cl, tCX__entry, ok_ent FCX__entry T CN LC, bCX__entry⟩ ⟨_, _, _, LC.cl, tCX__number, ok_numb FCX__number T LC C_chk, bCX__number⟩ ⟨_, _, _, LC.cl, tCX__lines, ok_lines FCX__lines T LC, bCX__lines⟩
    ⟨_, _, _, _, ok_refusal F__law_refusal T EX K_Lex, m__law_refusal, F__law_refusal.kp, b__law_refusal, .nil⟩ ⟨_, _, _, _, ok_wrong F__law_wrong T CN C_take C_clo, m__law_wrong, F__law_wrong.kp, b__law_wrong, .nil⟩
    ⟨_, _, _, _, ok_langs F__law_languages T EX C_chk, m__law_languages, F__law_languages.kp, b__law_languages, .nil⟩ C_clo
  · exact ⟨_, _, _, _, ok_plain F__law_plain T (cal_plain F__law_plain T m__law_plain b__law_plain 2), m__law_plain, F__law_plain.kp, b__law_plain, .nil⟩
  · exact ⟨_, _, _, _, ok_spoil F__law_spoil T (cal_spoil F__law_spoil T m__law_spoil b__law_spoil 2), m__law_spoil, F__law_spoil.kp, b__law_spoil, .nil⟩
end
theorem all_mk {l : PySem.W.OpenLaw} {w : World} {K : PySem.W.Frag} {h : Heap} {mg : Str → Option Value} {fa f0 f1 f2 f3 f4 f5 f6 f7 f8 f9 f10 f11 f12 f13 f14 CT CI CL CM aL aN aF aP aT aK aNN aFN CX_ fCX__init fCX__put fCX__size fCX__entry fCX__number fCX__lines : Addr} (X : K.In h) (G : h.Ns mainGlobals mg) (hfa : mg "law" = some (.ref fa))
    {od0 an0 : Option Addr} {sl0 : Array (Option Value)} {oc0 kV0 dc0 pm0 cd0 ct0 : Value}
    {od1 an1 : Option Addr} {sl1 : Array (Option Value)} {oc1 kV1 dc1 pm1 cd1 ct1 : Value}
    {od2 an2 : Option Addr} {sl2 : Array (Option Value)} {oc2 kV2 dc2 pm2 cd2 ct2 : Value}
    {od3 an3 : Option Addr} {sl3 : Array (Option Value)} {oc3 kV3 dc3 pm3 cd3 ct3 : Value}
    {od4 an4 : Option Addr} {sl4 : Array (Option Value)} {oc4 kV4 dc4 pm4 cd4 ct4 : Value}
    {od5 an5 : Option Addr} {sl5 : Array (Option Value)} {oc5 kV5 dc5 pm5 cd5 ct5 : Value}
    {od6 an6 : Option Addr} {sl6 : Array (Option Value)} {oc6 kV6 dc6 pm6 cd6 ct6 : Value}
    {od7 an7 : Option Addr} {sl7 : Array (Option Value)} {oc7 kV7 dc7 pm7 cd7 ct7 : Value}
    {od8 an8 : Option Addr} {sl8 : Array (Option Value)} {oc8 kV8 dc8 pm8 cd8 ct8 : Value}
    {od9 an9 : Option Addr} {sl9 : Array (Option Value)} {oc9 kV9 dc9 pm9 cd9 ct9 : Value}
    {od10 an10 : Option Addr} {sl10 : Array (Option Value)} {oc10 kV10 dc10 pm10 cd10 ct10 : Value}
    {od11 an11 : Option Addr} {sl11 : Array (Option Value)} {oc11 kV11 dc11 pm11 cd11 ct11 : Value}
    {od12 an12 : Option Addr} {sl12 : Array (Option Value)} {oc12 kV12 dc12 pm12 cd12 ct12 : Value}
    {od13 an13 : Option Addr} {sl13 : Array (Option Value)} {oc13 kV13 dc13 pm13 cd13 ct13 : Value}
    {od14 an14 : Option Addr} {sl14 : Array (Option Value)} {oc14 kV14 dc14 pm14 cd14 ct14 : Value}
    (a0 : PySem.W.nsIn K mainGlobals "check_language" = some (some (.ref f0)))
    (l0 : K.lookup f0 = some ⟨oc0, od0, .func (PySem.W.fnOf "check_language" "check_language" (defArgs s_check_language) (defBody s_check_language) (defScope s_check_language) .none kV0 dc0 pm0 an0 cd0 ct0), sl0⟩)
    (c0 : PySem.W.codeIn K cd0 "check_language" = true)
    (k0 : PySem.W.keepIn K (.ref f0) = true)
    (a1 : PySem.W.nsIn K mainGlobals "closed_words" = some (some (.ref f1)))
    (l1 : K.lookup f1 = some ⟨oc1, od1, .func (PySem.W.fnOf "closed_words" "closed_words" (defArgs s_closed_words) (defBody s_closed_words) (defScope s_closed_words) .none kV1 dc1 pm1 an1 cd1 ct1), sl1⟩)
    (c1 : PySem.W.codeIn K cd1 "closed_words" = true)
    (k1 : PySem.W.keepIn K (.ref f1) = true)
    (a2 : PySem.W.nsIn K mainGlobals "is_stem" = some (some (.ref f2)))
    (l2 : K.lookup f2 = some ⟨oc2, od2, .func (PySem.W.fnOf "is_stem" "is_stem" (defArgs s_is_stem) (defBody s_is_stem) (defScope s_is_stem) .none kV2 dc2 pm2 an2 cd2 ct2), sl2⟩)
    (c2 : PySem.W.codeIn K cd2 "is_stem" = true)
    (k2 : PySem.W.keepIn K (.ref f2) = true)
    (a3 : PySem.W.nsIn K mainGlobals "entry_of" = some (some (.ref f3)))
    (l3 : K.lookup f3 = some ⟨oc3, od3, .func (PySem.W.fnOf "entry_of" "entry_of" (defArgs s_entry_of) (defBody s_entry_of) (defScope s_entry_of) .none kV3 dc3 pm3 an3 cd3 ct3), sl3⟩)
    (c3 : PySem.W.codeIn K cd3 "entry_of" = true)
    (k3 : PySem.W.keepIn K (.ref f3) = true)
    (a4 : PySem.W.nsIn K mainGlobals "_law_deck" = some (some (.ref f4)))
    (l4 : K.lookup f4 = some ⟨oc4, od4, .func (PySem.W.fnOf "_law_deck" "_law_deck" (defArgs s__law_deck) (defBody s__law_deck) (defScope s__law_deck) .none kV4 dc4 pm4 an4 cd4 ct4), sl4⟩)
    (c4 : PySem.W.codeIn K cd4 "_law_deck" = true)
    (k4 : PySem.W.keepIn K (.ref f4) = true)
    (a5 : PySem.W.nsIn K mainGlobals "_law_take" = some (some (.ref f5)))
    (l5 : K.lookup f5 = some ⟨oc5, od5, .func (PySem.W.fnOf "_law_take" "_law_take" (defArgs s__law_take) (defBody s__law_take) (defScope s__law_take) .none kV5 dc5 pm5 an5 cd5 ct5), sl5⟩)
    (c5 : PySem.W.codeIn K cd5 "_law_take" = true)
    (k5 : PySem.W.keepIn K (.ref f5) = true)
    (a6 : PySem.W.nsIn K mainGlobals "_law_plain" = some (some (.ref f6)))
    (l6 : K.lookup f6 = some ⟨oc6, od6, .func (PySem.W.fnOf "_law_plain" "_law_plain" (defArgs s__law_plain) (defBody s__law_plain) (defScope s__law_plain) .none kV6 dc6 pm6 an6 cd6 ct6), sl6⟩)
    (c6 : PySem.W.codeIn K cd6 "_law_plain" = true)
    (k6 : PySem.W.keepIn K (.ref f6) = true)
    (a7 : PySem.W.nsIn K mainGlobals "_law_spoil" = some (some (.ref f7)))
    (l7 : K.lookup f7 = some ⟨oc7, od7, .func (PySem.W.fnOf "_law_spoil" "_law_spoil" (defArgs s__law_spoil) (defBody s__law_spoil) (defScope s__law_spoil) .none kV7 dc7 pm7 an7 cd7 ct7), sl7⟩)
    (c7 : PySem.W.codeIn K cd7 "_law_spoil" = true)
    (k7 : PySem.W.keepIn K (.ref f7) = true)
    (a8 : PySem.W.nsIn K mainGlobals "_law_pools" = some (some (.ref f8)))
    (l8 : K.lookup f8 = some ⟨oc8, od8, .func (PySem.W.fnOf "_law_pools" "_law_pools" (defArgs s__law_pools) (defBody s__law_pools) (defScope s__law_pools) .none kV8 dc8 pm8 an8 cd8 ct8), sl8⟩)
    (c8 : PySem.W.codeIn K cd8 "_law_pools" = true)
    (k8 : PySem.W.keepIn K (.ref f8) = true)
    (a9 : PySem.W.nsIn K mainGlobals "_law_lexicon" = some (some (.ref f9)))
    (l9 : K.lookup f9 = some ⟨oc9, od9, .func (PySem.W.fnOf "_law_lexicon" "_law_lexicon" (defArgs s__law_lexicon) (defBody s__law_lexicon) (defScope s__law_lexicon) .none kV9 dc9 pm9 an9 cd9 ct9), sl9⟩)
    (c9 : PySem.W.codeIn K cd9 "_law_lexicon" = true)
    (k9 : PySem.W.keepIn K (.ref f9) = true)
    (a10 : PySem.W.nsIn K mainGlobals "_law_lines" = some (some (.ref f10)))
    (l10 : K.lookup f10 = some ⟨oc10, od10, .func (PySem.W.fnOf "_law_lines" "_law_lines" (defArgs s__law_lines) (defBody s__law_lines) (defScope s__law_lines) .none kV10 dc10 pm10 an10 cd10 ct10), sl10⟩)
    (c10 : PySem.W.codeIn K cd10 "_law_lines" = true)
    (k10 : PySem.W.keepIn K (.ref f10) = true)
    (a11 : PySem.W.nsIn K mainGlobals "_law_refusal" = some (some (.ref f11)))
    (l11 : K.lookup f11 = some ⟨oc11, od11, .func (PySem.W.fnOf "_law_refusal" "_law_refusal" (defArgs s__law_refusal) (defBody s__law_refusal) (defScope s__law_refusal) .none kV11 dc11 pm11 an11 cd11 ct11), sl11⟩)
    (c11 : PySem.W.codeIn K cd11 "_law_refusal" = true)
    (k11 : PySem.W.keepIn K (.ref f11) = true)
    (a12 : PySem.W.nsIn K mainGlobals "_law_wrong" = some (some (.ref f12)))
    (l12 : K.lookup f12 = some ⟨oc12, od12, .func (PySem.W.fnOf "_law_wrong" "_law_wrong" (defArgs s__law_wrong) (defBody s__law_wrong) (defScope s__law_wrong) .none kV12 dc12 pm12 an12 cd12 ct12), sl12⟩)
    (c12 : PySem.W.codeIn K cd12 "_law_wrong" = true)
    (k12 : PySem.W.keepIn K (.ref f12) = true)
    (a13 : PySem.W.nsIn K mainGlobals "_law_languages" = some (some (.ref f13)))
    (l13 : K.lookup f13 = some ⟨oc13, od13, .func (PySem.W.fnOf "_law_languages" "_law_languages" (defArgs s__law_languages) (defBody s__law_languages) (defScope s__law_languages) .none kV13 dc13 pm13 an13 cd13 ct13), sl13⟩)
    (c13 : PySem.W.codeIn K cd13 "_law_languages" = true)
    (k13 : PySem.W.keepIn K (.ref f13) = true)
    (a14 : PySem.W.nsIn K mainGlobals "law" = some (some (.ref f14)))
    (l14 : K.lookup f14 = some ⟨oc14, od14, .func (PySem.W.fnOf "law" "law" (defArgs s_law) (defBody s_law) (defScope s_law) .none kV14 dc14 pm14 an14 cd14 ct14), sl14⟩)
    (c14 : PySem.W.codeIn K cd14 "law" = true)
    (k14 : PySem.W.keepIn K (.ref f14) = true)
    (z_len : PySem.W.nsIn K mainGlobals "len" = some none)
    (z_range : PySem.W.nsIn K mainGlobals "range" = some none)
    (z_list : PySem.W.nsIn K mainGlobals "list" = some none)
    (z_tuple : PySem.W.nsIn K mainGlobals "tuple" = some none)
    (z_int : PySem.W.nsIn K mainGlobals "int" = some none)
    (z_bool : PySem.W.nsIn K mainGlobals "bool" = some none)
    (z_str : PySem.W.nsIn K mainGlobals "str" = some none)
    (z_enumerate : PySem.W.nsIn K mainGlobals "enumerate" = some none)
    (z_min : PySem.W.nsIn K mainGlobals "min" = some none)
    (z_max : PySem.W.nsIn K mainGlobals "max" = some none)
    (z_abs : PySem.W.nsIn K mainGlobals "abs" = some none)
    (z_isinstance : PySem.W.nsIn K mainGlobals "isinstance" = some none)
    (z_all : PySem.W.nsIn K mainGlobals "all" = some none)
    (z_any : PySem.W.nsIn K mainGlobals "any" = some none)
    (z_zip : PySem.W.nsIn K mainGlobals "zip" = some none)
    (z_set : PySem.W.nsIn K mainGlobals "set" = some none)
    {tk_LETTERS : Tok}
    (q_LETTERS : PySem.W.nsIn K mainGlobals "LETTERS" = some (some (.str (S LET) tk_LETTERS)))
    {tk_MOST_LINES : Tok}
    (q_MOST_LINES : PySem.W.nsIn K mainGlobals "MOST_LINES" = some (some (.int 40 tk_MOST_LINES)))
    {tk_LONGEST : Tok}
    (q_LONGEST : PySem.W.nsIn K mainGlobals "LONGEST" = some (some (.int 12 tk_LONGEST)))
    (hn : PySem.W.specialIn K (.builtin "object.__class__") "__get__" = some (some (.builtin "getset_descriptor.__get__")))
    (ht : PySem.W.takesIn K (.builtin "object.__class__") = some true)
    {nmCT qnCT : Str} {NCT : Addr} {bsCT : List Value} {snCT : List Str} {subCT : List Value} {abCT : Bool} {coCT : Option Bool} {ddCT : Option Addr} {m0CT m1CT m2CT m3CT m5CT : Option Value}
    (gCT : PySem.W.nsIn K mainGlobals "TellError" = some (some (.ref CT)))
    (xCT : K.lookup CT = some (excClassObj nmCT qnCT CT NCT bsCT [.type "ValueError", .type "Exception", .type "BaseException", .type "object"] true snCT subCT abCT coCT ddCT m0CT m1CT m2CT m3CT m5CT "ValueError.__new__"))
    (saCT : PySem.W.findIn K (.ref CT) "__setattr__" = some (some (.builtin "object.__setattr__")))
    (gaCT : PySem.W.findIn K (.ref CT) "__getattribute__" = some (some (.builtin "BaseException.__getattribute__")))
    (ggCT : PySem.W.findIn K (.ref CT) "__getattr__" = some none)
    (ebCT : PySem.W.subIn K (.ref CT) (.type "BaseException") = some true)
    (tyCT : PySem.W.typeIn K (.ref CT) = some (.type "type"))
    (kpCT : PySem.W.keepIn K (.ref CT) = true)
    (hdCT : PySem.W.hasDictIn K CT = true)
    (hcCT : PySem.W.findIn K (.ref CT) "__class__" = some (some (.builtin "object.__class__")))
    (hmCT : PySem.W.mroIn K CT (.type "object") = some true)
    (teCT : PySem.W.subIn K (.ref CT) (.ref CT) = some true)
    {nmCI qnCI : Str} {NCI : Addr} {bsCI : List Value} {snCI : List Str} {subCI : List Value} {abCI : Bool} {coCI : Option Bool} {ddCI : Option Addr} {m0CI m1CI m2CI m3CI m5CI : Option Value}
    (gCI : PySem.W.nsIn K mainGlobals "InvalidText" = some (some (.ref CI)))
    (xCI : K.lookup CI = some (excClassObj nmCI qnCI CI NCI bsCI (.ref CT :: [.type "ValueError", .type "Exception", .type "BaseException", .type "object"]) true snCI subCI abCI coCI ddCI m0CI m1CI m2CI m3CI m5CI "ValueError.__new__"))
    (saCI : PySem.W.findIn K (.ref CI) "__setattr__" = some (some (.builtin "object.__setattr__")))
    (gaCI : PySem.W.findIn K (.ref CI) "__getattribute__" = some (some (.builtin "BaseException.__getattribute__")))
    (ggCI : PySem.W.findIn K (.ref CI) "__getattr__" = some none)
    (ebCI : PySem.W.subIn K (.ref CI) (.type "BaseException") = some true)
    (tyCI : PySem.W.typeIn K (.ref CI) = some (.type "type"))
    (kpCI : PySem.W.keepIn K (.ref CI) = true)
    (hdCI : PySem.W.hasDictIn K CI = true)
    (hcCI : PySem.W.findIn K (.ref CI) "__class__" = some (some (.builtin "object.__class__")))
    (hmCI : PySem.W.mroIn K CI (.type "object") = some true)
    (teCI : PySem.W.subIn K (.ref CI) (.ref CT) = some true)
    {nmCL qnCL : Str} {NCL : Addr} {bsCL : List Value} {snCL : List Str} {subCL : List Value} {abCL : Bool} {coCL : Option Bool} {ddCL : Option Addr} {m0CL m1CL m2CL m3CL m5CL : Option Value}
    (gCL : PySem.W.nsIn K mainGlobals "InvalidLexicon" = some (some (.ref CL)))
    (xCL : K.lookup CL = some (excClassObj nmCL qnCL CL NCL bsCL (.ref CT :: [.type "ValueError", .type "Exception", .type "BaseException", .type "object"]) true snCL subCL abCL coCL ddCL m0CL m1CL m2CL m3CL m5CL "ValueError.__new__"))
    (saCL : PySem.W.findIn K (.ref CL) "__setattr__" = some (some (.builtin "object.__setattr__")))
    (gaCL : PySem.W.findIn K (.ref CL) "__getattribute__" = some (some (.builtin "BaseException.__getattribute__")))
    (ggCL : PySem.W.findIn K (.ref CL) "__getattr__" = some none)
    (ebCL : PySem.W.subIn K (.ref CL) (.type "BaseException") = some true)
    (tyCL : PySem.W.typeIn K (.ref CL) = some (.type "type"))
    (kpCL : PySem.W.keepIn K (.ref CL) = true)
    (hdCL : PySem.W.hasDictIn K CL = true)
    (hcCL : PySem.W.findIn K (.ref CL) "__class__" = some (some (.builtin "object.__class__")))
    (hmCL : PySem.W.mroIn K CL (.type "object") = some true)
    (teCL : PySem.W.subIn K (.ref CL) (.ref CT) = some true)
    {nmCM qnCM : Str} {NCM : Addr} {bsCM : List Value} {snCM : List Str} {subCM : List Value} {abCM : Bool} {coCM : Option Bool} {ddCM : Option Addr} {m0CM m1CM m2CM m3CM m5CM : Option Value}
    (gCM : PySem.W.nsIn K mainGlobals "TooMany" = some (some (.ref CM)))
    (xCM : K.lookup CM = some (excClassObj nmCM qnCM CM NCM bsCM (.ref CT :: [.type "ValueError", .type "Exception", .type "BaseException", .type "object"]) true snCM subCM abCM coCM ddCM m0CM m1CM m2CM m3CM m5CM "ValueError.__new__"))
    (saCM : PySem.W.findIn K (.ref CM) "__setattr__" = some (some (.builtin "object.__setattr__")))
    (gaCM : PySem.W.findIn K (.ref CM) "__getattribute__" = some (some (.builtin "BaseException.__getattribute__")))
    (ggCM : PySem.W.findIn K (.ref CM) "__getattr__" = some none)
    (ebCM : PySem.W.subIn K (.ref CM) (.type "BaseException") = some true)
    (tyCM : PySem.W.typeIn K (.ref CM) = some (.type "type"))
    (kpCM : PySem.W.keepIn K (.ref CM) = true)
    (hdCM : PySem.W.hasDictIn K CM = true)
    (hcCM : PySem.W.findIn K (.ref CM) "__class__" = some (some (.builtin "object.__class__")))
    (hmCM : PySem.W.mroIn K CM (.type "object") = some true)
    (teCM : PySem.W.subIn K (.ref CM) (.ref CT) = some true)
    (z_super : PySem.W.nsIn K mainGlobals "super" = some none)
    (tp : PySem.W.nsIn K cStatics "thirdparty.any" = some none)
    (top : (l.prog.main.scope.names.lookup ("super" : Str)).isSome = false)
    {fiCL cdaCL ccCL : Addr} {iodCL ianCL : Option Addr} {islCL : Array (Option Value)} {iocCL idcCL ipmCL ictCL cclCL celCL : Value} {cddCL cedCL : Option Addr} {vsCL : Array Value} {ccsCL cesCL : Array (Option Value)} {fileCL : Str} {tfCL : Tok}
    (icCL : PySem.W.findIn K (.ref CL) "__init__" = some (some (.ref fiCL)))
    (itCL : PySem.W.typeIn K (.ref fiCL) = some (.type "function"))
    (ilCL : K.lookup fiCL = some ⟨iocCL, iodCL, .func (PySem.W.ksFn "__init__" "InvalidLexicon.__init__" (defArgs s_InvalidLexicon___init__) (defBody s_InvalidLexicon___init__) (defScope s_InvalidLexicon___init__) .none .none idcCL ipmCL ianCL (.ref cdaCL) ictCL ccCL), islCL⟩)
    (ioCL : PySem.W.codeIn K (.ref cdaCL) "InvalidLexicon.__init__" = true)
    (ikCL : K.lookup cdaCL = some ⟨cclCL, cddCL, .fields vsCL, ccsCL⟩)
    (ivCL : vsCL[2]? = some (.str fileCL tfCL))
    (iwCL : ((l.prog.main.file : Str) == fileCL) = true)
    (ieCL : K.lookup ccCL = some ⟨celCL, cedCL, .cell (some (.ref CL)), cesCL⟩)
    {cdtCL : ClassData}
    (idCL : PySem.W.clsIn K CL = some cdtCL)
    (isCL : PySem.W.ks_superIn K CL CL "__init__" = some (some (.builtin "ValueError.__init__")))
    (imCL : PySem.W.mroIn K CL (.ref CL) = some true)
    (irCL : PySem.W.subIn K (.ref CL) (.type "ValueError") = some true)
    {fiCM cdaCM ccCM : Addr} {iodCM ianCM : Option Addr} {islCM : Array (Option Value)} {iocCM idcCM ipmCM ictCM cclCM celCM : Value} {cddCM cedCM : Option Addr} {vsCM : Array Value} {ccsCM cesCM : Array (Option Value)} {fileCM : Str} {tfCM : Tok}
    (icCM : PySem.W.findIn K (.ref CM) "__init__" = some (some (.ref fiCM)))
    (itCM : PySem.W.typeIn K (.ref fiCM) = some (.type "function"))
    (ilCM : K.lookup fiCM = some ⟨iocCM, iodCM, .func (PySem.W.ksFn "__init__" "TooMany.__init__" (defArgs s_TooMany___init__) (defBody s_TooMany___init__) (defScope s_TooMany___init__) .none .none idcCM ipmCM ianCM (.ref cdaCM) ictCM ccCM), islCM⟩)
    (ioCM : PySem.W.codeIn K (.ref cdaCM) "TooMany.__init__" = true)
    (ikCM : K.lookup cdaCM = some ⟨cclCM, cddCM, .fields vsCM, ccsCM⟩)
    (ivCM : vsCM[2]? = some (.str fileCM tfCM))
    (iwCM : ((l.prog.main.file : Str) == fileCM) = true)
    (ieCM : K.lookup ccCM = some ⟨celCM, cedCM, .cell (some (.ref CM)), cesCM⟩)
    {cdtCM : ClassData}
    (idCM : PySem.W.clsIn K CM = some cdtCM)
    (isCM : PySem.W.ks_superIn K CM CM "__init__" = some (some (.builtin "ValueError.__init__")))
    (imCM : PySem.W.mroIn K CM (.ref CM) = some true)
    (irCM : PySem.W.subIn K (.ref CM) (.type "ValueError") = some true)
    (noCL_what : PySem.W.findIn K (.ref CL) "what" = some none)
    (noCL_line : PySem.W.findIn K (.ref CL) "line" = some none)
    (noCM_what : PySem.W.findIn K (.ref CM) "what" = some none)
    (noCM_many : PySem.W.findIn K (.ref CM) "many" = some none)
    (tsCL : PySem.W.subIn K (.ref CL) (.ref CL) = some true)
    (kt_ll : PySem.W.subIn K (.ref CL) (.ref CL) = some true)
    (kt_li : PySem.W.subIn K (.ref CL) (.ref CI) = some false)
    (kn_li : CL ≠ CI)
    (kt_lm : PySem.W.subIn K (.ref CL) (.ref CM) = some false)
    (kn_lm : CL ≠ CM)
    (kt_ml : PySem.W.subIn K (.ref CM) (.ref CL) = some false)
    (kn_ml : CM ≠ CL)
    (kt_mm : PySem.W.subIn K (.ref CM) (.ref CM) = some true)
    (c_aL : PySem.W.nsIn K mainGlobals "LANGUAGES" = some (some (.ref aL)))
    {odaL : Option Addr} {itaL : Array Value} {naL : Nat} {slaL : Array (Option Value)}
    (t_aL : K.lookup aL = some ⟨.type "tuple", odaL, .seq itaL naL, slaL⟩)
    (v_aL : Vals (["near", "far"].map tx) itaL.toList)
    (s_aL : itaL.size ≤ sizeLine)
    (c_aN : PySem.W.nsIn K mainGlobals "NEAR_CLOSED" = some (some (.ref aN)))
    {odaN : Option Addr} {itaN : Array Value} {naN : Nat} {slaN : Array (Option Value)}
    (t_aN : K.lookup aN = some ⟨.type "tuple", odaN, .seq itaN naN, slaN⟩)
    (v_aN : Vals (nearClosed.map tx) itaN.toList)
    (s_aN : itaN.size ≤ sizeLine)
    (c_aF : PySem.W.nsIn K mainGlobals "FAR_CLOSED" = some (some (.ref aF)))
    {odaF : Option Addr} {itaF : Array Value} {naF : Nat} {slaF : Array (Option Value)}
    (t_aF : K.lookup aF = some ⟨.type "tuple", odaF, .seq itaF naF, slaF⟩)
    (v_aF : Vals (farClosed.map tx) itaF.toList)
    (s_aF : itaF.size ≤ sizeLine)
    (c_aP : PySem.W.nsIn K mainGlobals "PERSONS" = some (some (.ref aP)))
    {odaP : Option Addr} {itaP : Array Value} {naP : Nat} {slaP : Array (Option Value)}
    (t_aP : K.lookup aP = some ⟨.type "tuple", odaP, .seq itaP naP, slaP⟩)
    (v_aP : Vals (["he", "she", "it"].map tx) itaP.toList)
    (s_aP : itaP.size ≤ sizeLine)
    (c_aT : PySem.W.nsIn K mainGlobals "THING" = some (some (.ref aT)))
    {odaT : Option Addr} {itaT : Array Value} {naT : Nat} {slaT : Array (Option Value)}
    (t_aT : K.lookup aT = some ⟨.type "tuple", odaT, .seq itaT naT, slaT⟩)
    (v_aT : Vals ([tx "noun", tx "thing", tx "jukk", .non]) itaT.toList)
    (s_aT : itaT.size ≤ sizeLine)
    (c_aK : PySem.W.nsIn K mainGlobals "KINDS" = some (some (.ref aK)))
    {esaK : Array DictEntry} {naK : Nat}
    (t_aK : K.lookup aK = some ⟨.type "dict", none, .dict esaK naK, #[]⟩)
    (v_aK : PySem.W.KeysLit w.params esaK.toList)
    (s_aK : (aK == sysModules) = false)
    {u_aK_noun : Tok}
    (k_aK_noun : PySem.W.nsIn K aK "noun" = some (some (.int 3 u_aK_noun)))
    {u_aK_adj : Tok}
    (k_aK_adj : PySem.W.nsIn K aK "adj" = some (some (.int 3 u_aK_adj)))
    {u_aK_verb : Tok}
    (k_aK_verb : PySem.W.nsIn K aK "verb" = some (some (.int 3 u_aK_verb)))
    {u_aK_name : Tok}
    (k_aK_name : PySem.W.nsIn K aK "name" = some (some (.int 4 u_aK_name)))
    (o_aK : ∀ z : Str, z ≠ "noun" → z ≠ "adj" → z ≠ "verb" → z ≠ "name" → (esaK.toList.find? (·.key.isStr z)) = none ∧ esaK.toList.any (·.refKey) = false)
    (c_aNN : PySem.W.nsIn K mainGlobals "NEAR_NUMBERS" = some (some (.ref aNN)))
    {odaNN : Option Addr} {itaNN : Array Value} {naNN : Nat} {slaNN : Array (Option Value)}
    (t_aNN : K.lookup aNN = some ⟨.type "tuple", odaNN, .seq itaNN naNN, slaNN⟩)
    (v_aNN : Vals (nearNumbers.map tx) itaNN.toList)
    (s_aNN : itaNN.size ≤ sizeLine)
    (c_aFN : PySem.W.nsIn K mainGlobals "FAR_NUMBERS" = some (some (.ref aFN)))
    {odaFN : Option Addr} {itaFN : Array Value} {naFN : Nat} {slaFN : Array (Option Value)}
    (t_aFN : K.lookup aFN = some ⟨.type "tuple", odaFN, .seq itaFN naFN, slaFN⟩)
    (v_aFN : Vals (farNumbers.map tx) itaFN.toList)
    (s_aFN : itaFN.size ≤ sizeLine)
    (gCX_ : PySem.W.nsIn K mainGlobals "Lexicon" = some (some (.ref CX_)))
    (pgCX_ : PySem.W.plainGet K CX_ Str.empty = true)
    (hdCX_ : PySem.W.hasDictIn K CX_ = true)
    (poCX_ : PySem.W.plainOver K CX_ = true)
    (saCX_ : PySem.W.findIn K (.ref CX_) "__setattr__" = some (some (.builtin "object.__setattr__")))
    (mkCX_ : PySem.W.makesIn K CX_ = true)
    (kpCX_ : PySem.W.keepIn K (.ref CX_) = true)
    (noCX__told : PySem.W.findIn K (.ref CX_) "told" = some none)
    (noCX__numbers : PySem.W.findIn K (.ref CX_) "numbers" = some none)
    {odCX__init anCX__init : Option Addr} {slCX__init : Array (Option Value)} {ocCX__init kVCX__init dcCX__init pmCX__init cdCX__init ctCX__init : Value}
    (aCX__init : PySem.W.findIn K (.ref CX_) "__init__" = some (some (.ref fCX__init)))
    (iCX__init : PySem.W.isFn K (.ref fCX__init) = true)
    (lCX__init : K.lookup fCX__init = some ⟨ocCX__init, odCX__init, .func (PySem.W.fnOf "__init__" "Lexicon.__init__" (defArgs s_Lexicon___init__) (defBody s_Lexicon___init__) (defScope s_Lexicon___init__) .none kVCX__init dcCX__init pmCX__init anCX__init cdCX__init ctCX__init), slCX__init⟩)
    (cCX__init : PySem.W.codeIn K cdCX__init "Lexicon.__init__" = true)
    (kCX__init : PySem.W.keepIn K (.ref fCX__init) = true)
    {odCX__put anCX__put : Option Addr} {slCX__put : Array (Option Value)} {ocCX__put kVCX__put dcCX__put pmCX__put cdCX__put ctCX__put : Value}
    (aCX__put : PySem.W.findIn K (.ref CX_) "put" = some (some (.ref fCX__put)))
    (iCX__put : PySem.W.isFn K (.ref fCX__put) = true)
    (lCX__put : K.lookup fCX__put = some ⟨ocCX__put, odCX__put, .func (PySem.W.fnOf "put" "Lexicon.put" (defArgs s_Lexicon_put) (defBody s_Lexicon_put) (defScope s_Lexicon_put) .none kVCX__put dcCX__put pmCX__put anCX__put cdCX__put ctCX__put), slCX__put⟩)
    (cCX__put : PySem.W.codeIn K cdCX__put "Lexicon.put" = true)
    (kCX__put : PySem.W.keepIn K (.ref fCX__put) = true)
    {odCX__size anCX__size : Option Addr} {slCX__size : Array (Option Value)} {ocCX__size kVCX__size dcCX__size pmCX__size cdCX__size ctCX__size : Value}
    (aCX__size : PySem.W.findIn K (.ref CX_) "size" = some (some (.ref fCX__size)))
    (iCX__size : PySem.W.isFn K (.ref fCX__size) = true)
    (lCX__size : K.lookup fCX__size = some ⟨ocCX__size, odCX__size, .func (PySem.W.fnOf "size" "Lexicon.size" (defArgs s_Lexicon_size) (defBody s_Lexicon_size) (defScope s_Lexicon_size) .none kVCX__size dcCX__size pmCX__size anCX__size cdCX__size ctCX__size), slCX__size⟩)
    (cCX__size : PySem.W.codeIn K cdCX__size "Lexicon.size" = true)
    (kCX__size : PySem.W.keepIn K (.ref fCX__size) = true)
    {odCX__entry anCX__entry : Option Addr} {slCX__entry : Array (Option Value)} {ocCX__entry kVCX__entry dcCX__entry pmCX__entry cdCX__entry ctCX__entry : Value}
    (aCX__entry : PySem.W.findIn K (.ref CX_) "entry" = some (some (.ref fCX__entry)))
    (iCX__entry : PySem.W.isFn K (.ref fCX__entry) = true)
    (lCX__entry : K.lookup fCX__entry = some ⟨ocCX__entry, odCX__entry, .func (PySem.W.fnOf "entry" "Lexicon.entry" (defArgs s_Lexicon_entry) (defBody s_Lexicon_entry) (defScope s_Lexicon_entry) .none kVCX__entry dcCX__entry pmCX__entry anCX__entry cdCX__entry ctCX__entry), slCX__entry⟩)
    (cCX__entry : PySem.W.codeIn K cdCX__entry "Lexicon.entry" = true)
    (kCX__entry : PySem.W.keepIn K (.ref fCX__entry) = true)
    {odCX__number anCX__number : Option Addr} {slCX__number : Array (Option Value)} {ocCX__number kVCX__number dcCX__number pmCX__number cdCX__number ctCX__number : Value}
    (aCX__number : PySem.W.findIn K (.ref CX_) "number" = some (some (.ref fCX__number)))
    (iCX__number : PySem.W.isFn K (.ref fCX__number) = true)
    (lCX__number : K.lookup fCX__number = some ⟨ocCX__number, odCX__number, .func (PySem.W.fnOf "number" "Lexicon.number" (defArgs s_Lexicon_number) (defBody s_Lexicon_number) (defScope s_Lexicon_number) .none kVCX__number dcCX__number pmCX__number anCX__number cdCX__number ctCX__number), slCX__number⟩)
    (cCX__number : PySem.W.codeIn K cdCX__number "Lexicon.number" = true)
    (kCX__number : PySem.W.keepIn K (.ref fCX__number) = true)
    {odCX__lines anCX__lines : Option Addr} {slCX__lines : Array (Option Value)} {ocCX__lines kVCX__lines dcCX__lines pmCX__lines cdCX__lines ctCX__lines : Value}
    (aCX__lines : PySem.W.findIn K (.ref CX_) "lines" = some (some (.ref fCX__lines)))
    (iCX__lines : PySem.W.isFn K (.ref fCX__lines) = true)
    (lCX__lines : K.lookup fCX__lines = some ⟨ocCX__lines, odCX__lines, .func (PySem.W.fnOf "lines" "Lexicon.lines" (defArgs s_Lexicon_lines) (defBody s_Lexicon_lines) (defScope s_Lexicon_lines) .none kVCX__lines dcCX__lines pmCX__lines anCX__lines cdCX__lines ctCX__lines), slCX__lines⟩)
    (cCX__lines : PySem.W.codeIn K cdCX__lines "Lexicon.lines" = true)
    (kCX__lines : PySem.W.keepIn K (.ref fCX__lines) = true)
    : ∃ fd : FuncData, (∀ (s : Shared) (v : Value), BindsTo s fd ⟨[v], []⟩ [("script", v)]) ∧ ∀ base : Heap, K.In base → base.Ns mainGlobals mg → FnOk l.prog w K mg base CX0 7 fa fd ["script"] (spLaw K) := by
  have e := hfa.symm.trans (PySem.W.mg_of X G a14)
  cases e
  have T : Tx mg := ⟨PySem.W.mg_none_of X G z_len, PySem.W.mg_none_of X G z_range, PySem.W.mg_none_of X G z_list, PySem.W.mg_none_of X G z_tuple, PySem.W.mg_none_of X G z_int, PySem.W.mg_none_of X G z_bool, PySem.W.mg_none_of X G z_str, PySem.W.mg_none_of X G z_enumerate, PySem.W.mg_none_of X G z_min, PySem.W.mg_none_of X G z_max, PySem.W.mg_none_of X G z_abs, PySem.W.mg_none_of X G z_isinstance, PySem.W.mg_none_of X G z_all, PySem.W.mg_none_of X G z_any, PySem.W.mg_none_of X G z_zip, PySem.W.mg_none_of X G z_set, ⟨_, PySem.W.mg_of X G q_LETTERS, ⟨_, rfl⟩⟩, ⟨_, PySem.W.mg_of X G q_MOST_LINES, ⟨_, rfl⟩⟩, ⟨_, PySem.W.mg_of X G q_LONGEST, ⟨_, rfl⟩⟩⟩
  have OXCT : OexC K CT := ⟨⟨_, _, _, _, _, _, _, _, _, _, _, _, _, _, _, xCT, by first | rfl | decide +kernel⟩, saCT, ebCT, tyCT, kpCT⟩
  have ECT : ExS.ErrC K mg "TellError" CT CT := ⟨PySem.W.mg_of X G gCT, OXCT, ⟨gaCT, ggCT, ebCT, hdCT, hcCT, hn, ht, hmCT⟩, teCT⟩
  have OXCI : OexC K CI := ⟨⟨_, _, _, _, _, _, _, _, _, _, _, _, _, _, _, xCI, by first | rfl | decide +kernel⟩, saCI, ebCI, tyCI, kpCI⟩
  have ECI : ExS.ErrC K mg "InvalidText" CI CT := ⟨PySem.W.mg_of X G gCI, OXCI, ⟨gaCI, ggCI, ebCI, hdCI, hcCI, hn, ht, hmCI⟩, teCI⟩
  have OXCL : OexC K CL := ⟨⟨_, _, _, _, _, _, _, _, _, _, _, _, _, _, _, xCL, by first | rfl | decide +kernel⟩, saCL, ebCL, tyCL, kpCL⟩
  have ECL : ExS.ErrC K mg "InvalidLexicon" CL CT := ⟨PySem.W.mg_of X G gCL, OXCL, ⟨gaCL, ggCL, ebCL, hdCL, hcCL, hn, ht, hmCL⟩, teCL⟩
  have OXCM : OexC K CM := ⟨⟨_, _, _, _, _, _, _, _, _, _, _, _, _, _, _, xCM, by first | rfl | decide +kernel⟩, saCM, ebCM, tyCM, kpCM⟩
  have ECM : ExS.ErrC K mg "TooMany" CM CT := ⟨PySem.W.mg_of X G gCM, OXCM, ⟨gaCM, ggCM, ebCM, hdCM, hcCM, hn, ht, hmCM⟩, teCM⟩
  have SCL : ExS.ErrC K mg "InvalidLexicon" CL CL := ⟨PySem.W.mg_of X G gCL, OXCL, ⟨gaCL, ggCL, ebCL, hdCL, hcCL, hn, ht, hmCL⟩, tsCL⟩
  have EX : Ex K mg CT CI CL CM := ⟨ECT, ECI, ECL, ECM, SCL, noCL_what, noCL_line, noCM_what, noCM_many, ECL.kit ECL kt_ll (fun _ => rfl), ECL.kit ECI kt_li (fun z => absurd z kn_li), ECL.kit ECM kt_lm (fun z => absurd z kn_lm), ECM.kit ECL kt_ml (fun z => absurd z kn_ml), ECM.kit ECM kt_mm (fun _ => rfl)⟩
  have F0 := fun_mk (st := s_check_language) l0 c0 k0
  have b0 := F0.binds (ps := ["language"]) fun _ _ _ _ _ _ us hl => match us, hl with | [_], _ => rfl
  have F1 := fun_mk (st := s_closed_words) l1 c1 k1
  have b1 := F1.binds (ps := ["language"]) fun _ _ _ _ _ _ us hl => match us, hl with | [_], _ => rfl
  have F2 := fun_mk (st := s_is_stem) l2 c2 k2
  have b2 := F2.binds (ps := ["word"]) fun _ _ _ _ _ _ us hl => match us, hl with | [_], _ => rfl
  have F3 := fun_mk (st := s_entry_of) l3 c3 k3
  have b3 := F3.binds (ps := ["line"]) fun _ _ _ _ _ _ us hl => match us, hl with | [_], _ => rfl
  have F4 := fun_mk (st := s__law_deck) l4 c4 k4
  have b4 := F4.binds (ps := ["script", "cells", "each"]) fun _ _ _ _ _ _ us hl => match us, hl with | [_, _, _], _ => rfl
  have F5 := fun_mk (st := s__law_take) l5 c5 k5
  have b5 := F5.binds (ps := ["deck", "many"]) fun _ _ _ _ _ _ us hl => match us, hl with | [_, _], _ => rfl
  have F6 := fun_mk (st := s__law_plain) l6 c6 k6
  have b6 := F6.binds (ps := ["value"]) fun _ _ _ _ _ _ us hl => match us, hl with | [_], _ => rfl
  have F7 := fun_mk (st := s__law_spoil) l7 c7 k7
  have b7 := F7.binds (ps := ["value"]) fun _ _ _ _ _ _ us hl => match us, hl with | [_], _ => rfl
  have F8 := fun_mk (st := s__law_pools) l8 c8 k8
  have b8 := F8.binds (ps := []) fun _ _ _ _ _ _ us hl => match us, hl with | [], _ => rfl
  have F9 := fun_mk (st := s__law_lexicon) l9 c9 k9
  have b9 := F9.binds (ps := ["deck", "sizes"]) fun _ _ _ _ _ _ us hl => match us, hl with | [_, _], _ => rfl
  have F10 := fun_mk (st := s__law_lines) l10 c10 k10
  have b10 := F10.binds (ps := ["rows"]) fun _ _ _ _ _ _ us hl => match us, hl with | [_], _ => rfl
  have F11 := fun_mk (st := s__law_refusal) l11 c11 k11
  have b11 := F11.binds (ps := ["lines"]) fun _ _ _ _ _ _ us hl => match us, hl with | [_], _ => rfl
  have F12 := fun_mk (st := s__law_wrong) l12 c12 k12
  have b12 := F12.binds (ps := ["deck", "rows", "at"]) fun _ _ _ _ _ _ us hl => match us, hl with | [_, _, _], _ => rfl
  have F13 := fun_mk (st := s__law_languages) l13 c13 k13
  have b13 := F13.binds (ps := []) fun _ _ _ _ _ _ us hl => match us, hl with | [], _ => rfl
  have F14 := fun_mk (st := s_law) l14 c14 k14
  refine ⟨PySem.W.fnOf "law" "law" (defArgs s_law) (defBody s_law) (defScope s_law) .none kV14 dc14 pm14 an14 cd14 ct14, fun s v => .of_eq rfl, fun base _ _ => ?_⟩
  have SMCL : ExS.SupM l.prog K mg CL cdaCL ccCL "InvalidLexicon.__init__" := ⟨ioCL, ⟨_, _, _, _, _, _, ikCL, ivCL, iwCL⟩, ⟨_, _, _, ieCL⟩, ⟨_, idCL⟩, PySem.W.mg_none_of X G z_super, tp, top⟩
  have MCL : ExS.MkX l.prog w K mg base 1 "InvalidLexicon" CL okIL fsIL := ⟨OXCL, PySem.W.mg_of X G gCL, _, _, _, icCL, itCL, ok_initL ilCL SMCL ⟨isCL, imCL, irCL⟩ OXCL noCL_what noCL_line T, .all fun us hl => match us, hl with | [_, _, _], _ => rfl⟩
  have SMCM : ExS.SupM l.prog K mg CM cdaCM ccCM "TooMany.__init__" := ⟨ioCM, ⟨_, _, _, _, _, _, ikCM, ivCM, iwCM⟩, ⟨_, _, _, ieCM⟩, ⟨_, idCM⟩, PySem.W.mg_none_of X G z_super, tp, top⟩
  have MCM : ExS.MkX l.prog w K mg base 1 "TooMany" CM okTM fsTM := ⟨OXCM, PySem.W.mg_of X G gCM, _, _, _, icCM, itCM, ok_initM ilCM SMCM ⟨isCM, imCM, irCM⟩ OXCM noCM_what noCM_many T, .all fun us hl => match us, hl with | [_, _, _], _ => rfl⟩
  have CN : Cn K w mg aL aN aF aP aT aK aNN aFN esaK naK := ⟨⟨_, PySem.W.mg_of X G c_aL, rfl⟩, ⟨_, _, _, t_aL, rfl, rfl, s_aL, v_aL⟩, ⟨_, PySem.W.mg_of X G c_aN, rfl⟩, ⟨_, _, _, t_aN, rfl, rfl, s_aN, v_aN⟩, ⟨_, PySem.W.mg_of X G c_aF, rfl⟩, ⟨_, _, _, t_aF, rfl, rfl, s_aF, v_aF⟩, ⟨_, PySem.W.mg_of X G c_aP, rfl⟩, ⟨_, _, _, t_aP, rfl, rfl, s_aP, v_aP⟩, ⟨_, PySem.W.mg_of X G c_aT, rfl⟩, ⟨_, _, _, t_aT, rfl, rfl, s_aT, v_aT⟩, ⟨_, PySem.W.mg_of X G c_aK, rfl⟩, ⟨t_aK, v_aK, s_aK⟩, ⟨_, k_aK_noun⟩, ⟨_, k_aK_adj⟩, ⟨_, k_aK_verb⟩, ⟨_, k_aK_name⟩, (fun z h0 h1 h2 h3 => EndL.ex_ns t_aK (o_aK z h0 h1 h2 h3)), ⟨_, PySem.W.mg_of X G c_aNN, rfl⟩, ⟨_, _, _, t_aNN, rfl, rfl, s_aNN, v_aNN⟩, ⟨_, PySem.W.mg_of X G c_aFN, rfl⟩, ⟨_, _, _, t_aFN, rfl, rfl, s_aFN, v_aFN⟩⟩
  have LC : LexC K CX_ := ⟨⟨pgCX_, hdCX_, poCX_, saCX_⟩, noCX__told, noCX__numbers⟩
  have FCX__init := fun_mk (st := s_Lexicon___init__) lCX__init cCX__init kCX__init
  have bCX__init := FCX__init.binds (ps := ["self", "lines"]) fun _ _ _ _ _ _ us hl => match us, hl with | [_, _], _ => rfl
  have FCX__put := fun_mk (st := s_Lexicon_put) lCX__put cCX__put kCX__put
  have bCX__put := FCX__put.binds (ps := ["self", "line", "at"]) fun _ _ _ _ _ _ us hl => match us, hl with | [_, _, _], _ => rfl
  have FCX__size := fun_mk (st := s_Lexicon_size) lCX__size cCX__size kCX__size
  have bCX__size := FCX__size.binds (ps := ["self"]) fun _ _ _ _ _ _ us hl => match us, hl with | [_], _ => rfl
  have FCX__entry := fun_mk (st := s_Lexicon_entry) lCX__entry cCX__entry kCX__entry
  have bCX__entry := FCX__entry.binds (ps := ["self", "number"]) fun _ _ _ _ _ _ us hl => match us, hl with | [_, _], _ => rfl
  have FCX__number := fun_mk (st := s_Lexicon_number) lCX__number cCX__number kCX__number
  have bCX__number := FCX__number.binds (ps := ["self", "kind", "language", "stem"]) fun _ _ _ _ _ _ us hl => match us, hl with | [_, _, _, _], _ => rfl
  have FCX__lines := fun_mk (st := s_Lexicon_lines) lCX__lines cCX__lines kCX__lines
  have bCX__lines := FCX__lines.binds (ps := ["self"]) fun _ _ _ _ _ _ us hl => match us, hl with | [_], _ => rfl
  exact main F0 b0 (PySem.W.mg_of X G a0) F1 b1 (PySem.W.mg_of X G a1) F2 b2 (PySem.W.mg_of X G a2) F3 b3 (PySem.W.mg_of X G a3) F4 b4 (PySem.W.mg_of X G a4) F5 b5 (PySem.W.mg_of X G a5) F6 b6 (PySem.W.mg_of X G a6) F7 b7 (PySem.W.mg_of X G a7) F8 b8 (PySem.W.mg_of X G a8) F9 b9 (PySem.W.mg_of X G a9) F10 b10 (PySem.W.mg_of X G a10) F11 b11 (PySem.W.mg_of X G a11) F12 b12 (PySem.W.mg_of X G a12) F13 b13 (PySem.W.mg_of X G a13) F14 T EX MCL MCM CN LC ⟨mkCX_, aCX__init, iCX__init, kpCX_⟩ (PySem.W.mg_of X G gCX_) FCX__init bCX__init ⟨aCX__init, iCX__init, kCX__init⟩ FCX__put bCX__put ⟨aCX__put, iCX__put, kCX__put⟩ FCX__size bCX__size ⟨aCX__size, iCX__size, kCX__size⟩ FCX__entry bCX__entry ⟨aCX__entry, iCX__entry, kCX__entry⟩ FCX__number bCX__number ⟨aCX__number, iCX__number, kCX__number⟩ FCX__lines bCX__lines ⟨aCX__lines, iCX__lines, kCX__lines⟩
end K34
open PySem PySem.W PyProof.Rows
set_option maxRecDepth 100000 in
set_option maxHeartbeats 0 in
theorem PySem.Challenge.cw_tellwork_k34_whole_lexicons_holds : PySem.Challenge.rw_tellwork_k34_whole_lexicons.Holds := by
  w_on; o_law; k_head; (case hw => w_witness2)
  k_fill
  refine L2.walk_of (l := PySem.Challenge.rw_tellwork_k34_whole_lexicons) (n := 63) (k := 7) (x := "script") (CX := fun _ => L2.CX0) (sp := fun w => K34.spLaw _) rfl (by decide) rfl ⟨rfl, by decide, by decide⟩ (fun w h Y => PySem.W.kIn_of Y) ?F (fun _ _ a ns hl _ hS => ⟨a, ns, rfl, hS, hl, fun _ => rfl⟩) (fun _ _ _ _ _ h => h)
  case F =>
    intro w mg fa h KX G hmg
    refine' K34.all_mk (l := PySem.Challenge.rw_tellwork_k34_whole_lexicons) KX G hmg ?a0 ?l0 ?c0 ?k0 ?a1 ?l1 ?c1 ?k1 ?a2 ?l2 ?c2 ?k2 ?a3 ?l3 ?c3 ?k3 ?a4 ?l4 ?c4 ?k4 ?a5 ?l5 ?c5 ?k5 ?a6 ?l6 ?c6 ?k6 ?a7 ?l7 ?c7 ?k7 ?a8 ?l8 ?c8 ?k8 ?a9 ?l9 ?c9 ?k9 ?a10 ?l10 ?c10 ?k10 ?a11 ?l11 ?c11 ?k11 ?a12 ?l12 ?c12 ?k12 ?a13 ?l13 ?c13 ?k13 ?a14 ?l14 ?c14 ?k14 ?z_len ?z_range ?z_list ?z_tuple ?z_int ?z_bool ?z_str ?z_enumerate ?z_min ?z_max ?z_abs ?z_isinstance ?z_all ?z_any ?z_zip ?z_set ?q_LETTERS ?q_MOST_LINES ?q_LONGEST ?hn ?ht ?gCT ?xCT ?saCT ?gaCT ?ggCT ?ebCT ?tyCT ?kpCT ?hdCT ?hcCT ?hmCT ?teCT ?gCI ?xCI ?saCI ?gaCI ?ggCI ?ebCI ?tyCI ?kpCI ?hdCI ?hcCI ?hmCI ?teCI ?gCL ?xCL ?saCL ?gaCL ?ggCL ?ebCL ?tyCL ?kpCL ?hdCL ?hcCL ?hmCL ?teCL ?gCM ?xCM ?saCM ?gaCM ?ggCM ?ebCM ?tyCM ?kpCM ?hdCM ?hcCM ?hmCM ?teCM ?z_super ?tp ?top ?icCL ?itCL ?ilCL ?ioCL ?ikCL ?ivCL ?iwCL ?ieCL ?idCL ?isCL ?imCL ?irCL ?icCM ?itCM ?ilCM ?ioCM ?ikCM ?ivCM ?iwCM ?ieCM ?idCM ?isCM ?imCM ?irCM ?noCL_what ?noCL_line ?noCM_what ?noCM_many ?tsCL ?kt_ll ?kt_li ?kn_li ?kt_lm ?kn_lm ?kt_ml ?kn_ml ?kt_mm ?c_aL ?t_aL ?v_aL ?s_aL ?c_aN ?t_aN ?v_aN ?s_aN ?c_aF ?t_aF ?v_aF ?s_aF ?c_aP ?t_aP ?v_aP ?s_aP ?c_aT ?t_aT ?v_aT ?s_aT ?c_aK ?t_aK ?v_aK ?s_aK ?k_aK_noun ?k_aK_adj ?k_aK_verb ?k_aK_name ?o_aK ?c_aNN ?t_aNN ?v_aNN ?s_aNN ?c_aFN ?t_aFN ?v_aFN ?s_aFN ?gCX_ ?pgCX_ ?hdCX_ ?poCX_ ?saCX_ ?mkCX_ ?kpCX_ ?noCX__told ?noCX__numbers ?aCX__init ?iCX__init ?lCX__init ?cCX__init ?kCX__init ?aCX__put ?iCX__put ?lCX__put ?cCX__put ?kCX__put ?aCX__size ?iCX__size ?lCX__size ?cCX__size ?kCX__size ?aCX__entry ?iCX__entry ?lCX__entry ?cCX__entry ?kCX__entry ?aCX__number ?iCX__number ?lCX__number ?cCX__number ?kCX__number ?aCX__lines ?iCX__lines ?lCX__lines ?cCX__lines ?kCX__lines
    (case a0 => k_is)
    (case l0 => k_is)
    (case c0 => k_is)
    (case k0 => k_is)
    (case a1 => k_is)
    (case l1 => k_is)
    (case c1 => k_is)
    (case k1 => k_is)
    (case a2 => k_is)
    (case l2 => k_is)
    (case c2 => k_is)
    (case k2 => k_is)
    (case a3 => k_is)
    (case l3 => k_is)
    (case c3 => k_is)
    (case k3 => k_is)
    (case a4 => k_is)
    (case l4 => k_is)
    (case c4 => k_is)
    (case k4 => k_is)
    (case a5 => k_is)
    (case l5 => k_is)
    (case c5 => k_is)
    (case k5 => k_is)
    (case a6 => k_is)
    (case l6 => k_is)
    (case c6 => k_is)
    (case k6 => k_is)
    (case a7 => k_is)
    (case l7 => k_is)
    (case c7 => k_is)
    (case k7 => k_is)
    (case a8 => k_is)
    (case l8 => k_is)
    (case c8 => k_is)
    (case k8 => k_is)
    (case a9 => k_is)
    (case l9 => k_is)
    (case c9 => k_is)
    (case k9 => k_is)
    (case a10 => k_is)
    (case l10 => k_is)
    (case c10 => k_is)
    (case k10 => k_is)
    (case a11 => k_is)
    (case l11 => k_is)
    (case c11 => k_is)
    (case k11 => k_is)
    (case a12 => k_is)
    (case l12 => k_is)
    (case c12 => k_is)
    (case k12 => k_is)
    (case a13 => k_is)
    (case l13 => k_is)
    (case c13 => k_is)
    (case k13 => k_is)
    (case a14 => k_is)
    (case l14 => k_is)
    (case c14 => k_is)
    (case k14 => k_is)
    (case z_len => k_is)
    (case z_range => k_is)
    (case z_list => k_is)
    (case z_tuple => k_is)
    (case z_int => k_is)
    (case z_bool => k_is)
    (case z_str => k_is)
    (case z_enumerate => k_is)
    (case z_min => k_is)
    (case z_max => k_is)
    (case z_abs => k_is)
    (case z_isinstance => k_is)
    (case z_all => k_is)
    (case z_any => k_is)
    (case z_zip => k_is)
    (case z_set => k_is)
    (case q_LETTERS => k_is)
    (case q_MOST_LINES => k_is)
    (case q_LONGEST => k_is)
    (case hn => k_is)
    (case ht => k_is)
    (case gCT => k_is)
    (case xCT => k_is)
    (case saCT => k_is)
    (case gaCT => k_is)
    (case ggCT => k_is)
    (case ebCT => k_is)
    (case tyCT => k_is)
    (case kpCT => k_is)
    (case hdCT => k_is)
    (case hcCT => k_is)
    (case hmCT => k_is)
    (case teCT => first | k_is | rfl)
    (case gCI => k_is)
    (case xCI => k_is)
    (case saCI => k_is)
    (case gaCI => k_is)
    (case ggCI => k_is)
    (case ebCI => k_is)
    (case tyCI => k_is)
    (case kpCI => k_is)
    (case hdCI => k_is)
    (case hcCI => k_is)
    (case hmCI => k_is)
    (case teCI => first | k_is | rfl)
    (case gCL => k_is)
    (case xCL => k_is)
    (case saCL => k_is)
    (case gaCL => k_is)
    (case ggCL => k_is)
    (case ebCL => k_is)
    (case tyCL => k_is)
    (case kpCL => k_is)
    (case hdCL => k_is)
    (case hcCL => k_is)
    (case hmCL => k_is)
    (case teCL => first | k_is | rfl)
    (case gCM => k_is)
    (case xCM => k_is)
    (case saCM => k_is)
    (case gaCM => k_is)
    (case ggCM => k_is)
    (case ebCM => k_is)
    (case tyCM => k_is)
    (case kpCM => k_is)
    (case hdCM => k_is)
    (case hcCM => k_is)
    (case hmCM => k_is)
    (case teCM => first | k_is | rfl)
    (case z_super => k_is)
    (case tp => k_is)
    (case top => first | rfl | decide +kernel)
    (case icCL => k_is)
    (case itCL => k_is)
    (case ilCL => k_is)
    (case ioCL => k_is)
    (case ikCL => k_is)
    (case ivCL => rfl)
    (case iwCL => first | rfl | decide +kernel)
    (case ieCL => k_is)
    (case idCL => k_is)
    (case isCL => first | ks_is | k_is | kernel_rfl | decide +kernel)
    (case imCL => k_is)
    (case irCL => k_is)
    (case icCM => k_is)
    (case itCM => k_is)
    (case ilCM => k_is)
    (case ioCM => k_is)
    (case ikCM => k_is)
    (case ivCM => rfl)
    (case iwCM => first | rfl | decide +kernel)
    (case ieCM => k_is)
    (case idCM => k_is)
    (case isCM => first | ks_is | k_is | kernel_rfl | decide +kernel)
    (case imCM => k_is)
    (case irCM => k_is)
    (case noCL_what => k_is)
    (case noCL_line => k_is)
    (case noCM_what => k_is)
    (case noCM_many => k_is)
    (case tsCL => first | k_is | rfl)
    (case kt_ll => first | k_is | rfl)
    (case kt_li => first | k_is | rfl)
    (case kn_li => decide)
    (case kt_lm => first | k_is | rfl)
    (case kn_lm => decide)
    (case kt_ml => first | k_is | rfl)
    (case kn_ml => decide)
    (case kt_mm => first | k_is | rfl)
    (case c_aL => k_is)
    (case t_aL => k_is)
    (case v_aL => repeat (first | exact .nil | refine .cons (by first | exact ⟨_, rfl⟩ | rfl) ?_))
    (case s_aL => decide)
    (case c_aN => k_is)
    (case t_aN => k_is)
    (case v_aN => repeat (first | exact .nil | refine .cons (by first | exact ⟨_, rfl⟩ | rfl) ?_))
    (case s_aN => decide)
    (case c_aF => k_is)
    (case t_aF => k_is)
    (case v_aF => repeat (first | exact .nil | refine .cons (by first | exact ⟨_, rfl⟩ | rfl) ?_))
    (case s_aF => decide)
    (case c_aP => k_is)
    (case t_aP => k_is)
    (case v_aP => repeat (first | exact .nil | refine .cons (by first | exact ⟨_, rfl⟩ | rfl) ?_))
    (case s_aP => decide)
    (case c_aT => k_is)
    (case t_aT => k_is)
    (case v_aT => repeat (first | exact .nil | refine .cons (by first | exact ⟨_, rfl⟩ | rfl) ?_))
    (case s_aT => decide)
    (case c_aK => k_is)
    (case t_aK => k_is)
    (case v_aK => exact ⟨⟨_, _, rfl, rfl⟩, ⟨_, _, rfl, rfl⟩, ⟨_, _, rfl, rfl⟩, ⟨_, _, rfl, rfl⟩,  trivial⟩)
    (case s_aK => decide)
    (case k_aK_noun => k_is)
    (case k_aK_adj => k_is)
    (case k_aK_verb => k_is)
    (case k_aK_name => k_is)
    (case o_aK => intro z h0 h1 h2 h3; exact ⟨EndL.find_none _ ["noun", "adj", "verb", "name"] rfl (fun k hk => by simp only [List.mem_cons, List.not_mem_nil, or_false] at hk; rcases hk with rfl | rfl | rfl | rfl <;> assumption), rfl⟩)
    (case c_aNN => k_is)
    (case t_aNN => k_is)
    (case v_aNN => repeat (first | exact .nil | refine .cons (by first | exact ⟨_, rfl⟩ | rfl) ?_))
    (case s_aNN => decide)
    (case c_aFN => k_is)
    (case t_aFN => k_is)
    (case v_aFN => repeat (first | exact .nil | refine .cons (by first | exact ⟨_, rfl⟩ | rfl) ?_))
    (case s_aFN => decide)
    (case gCX_ => k_is)
    (case pgCX_ => k_is)
    (case hdCX_ => k_is)
    (case poCX_ => k_is)
    (case saCX_ => k_is)
    (case mkCX_ => k_is)
    (case kpCX_ => k_is)
    (case noCX__told => k_is)
    (case noCX__numbers => k_is)
    (case aCX__init => k_is)
    (case iCX__init => k_is)
    (case lCX__init => k_is)
    (case cCX__init => k_is)
    (case kCX__init => k_is)
    (case aCX__put => k_is)
    (case iCX__put => k_is)
    (case lCX__put => k_is)
    (case cCX__put => k_is)
    (case kCX__put => k_is)
    (case aCX__size => k_is)
    (case iCX__size => k_is)
    (case lCX__size => k_is)
    (case cCX__size => k_is)
    (case kCX__size => k_is)
    (case aCX__entry => k_is)
    (case iCX__entry => k_is)
    (case lCX__entry => k_is)
    (case cCX__entry => k_is)
    (case kCX__entry => k_is)
    (case aCX__number => k_is)
    (case iCX__number => k_is)
    (case lCX__number => k_is)
    (case cCX__number => k_is)
    (case kCX__number => k_is)
    (case aCX__lines => k_is)
    (case iCX__lines => k_is)
    (case lCX__lines => k_is)
    (case cCX__lines => k_is)
    (case kCX__lines => k_is)
