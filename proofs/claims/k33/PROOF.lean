import PyProof.Rows.All
import Wide.All
import OpenK.AllK
import Wide.FinOn
import HandS.ForMost
import HandS.Codes
import HandS.Conv
import HandS.TupAny
import HandS.TupLe
import HandS.IsInst
import HandS.Flt
import KE.GoesEnum
import KE.GoesMore
import KE.KExcSuper
import HandS.Nested
import HandS.ExcInit
import HandS.ForExc
import HandS.ExcField
import HandS.ExcIs
import KE.KExcIs
import HandS.StrMore
import PySem.Challenge.RW_tellwork_k33_whole_tokens_and_places
import KE.RegKSuper
set_option Elab.async false
set_option linter.all false
set_option maxRecDepth 100000
set_option maxHeartbeats 4000000
namespace Tw
open PySem PySem.Spec PyProof.Rows L2

/-! ### texts as lists -/
abbrev S (l : List Nat) : Str := ⟨l.toArray⟩
theorem S_len (l : List Nat) : (S l).length = l.length := by show l.toArray.size = _; simp
theorem S_cps (l : List Nat) : (S l).cps.toList = l := rfl
theorem S_add (a b : List Nat) : S a ++ S b = S (a ++ b) := by
  show (⟨a.toArray ++ b.toArray⟩ : Str) = ⟨(a ++ b).toArray⟩
  simp
theorem S_inj {a b : List Nat} : S a = S b ↔ a = b := by
  constructor
  · intro h
    have := congrArg (fun z : Str => z.cps.toList) h
    simpa using this
  · rintro rfl; rfl
theorem S_of (z : Str) : z = S z.cps.toList := by cases z; simp
theorem S_cut (l : List Nat) (lo hi : Option Int) : cutS (S l) lo hi = S ((l.drop (HT.sIx l.length 0 lo)).take (HT.sIx l.length l.length hi - HT.sIx l.length 0 lo)) := by
  unfold cutS
  rw [S_len]

theorem cut_to (l : List Nat) (k : Nat) : cutS (S l) none (some (k : Int)) = S (l.take k) := by
  rw [S_cut, HT.sIx_none, HT.sIx_nat, List.drop_zero, Nat.sub_zero]
  rcases Nat.le_total k l.length with h | h
  · rw [Nat.min_eq_left h]
  · rw [Nat.min_eq_right h, List.take_of_length_le (Nat.le_refl _), List.take_of_length_le h]
theorem cut_from (l : List Nat) (k : Nat) : cutS (S l) (some (k : Int)) none = S (l.drop k) := by
  rw [S_cut, HT.sIx_none, HT.sIx_nat]
  rcases Nat.le_total k l.length with h | h
  · rw [Nat.min_eq_left h, List.take_of_length_le (by rw [List.length_drop]; exact Nat.le_refl _)]
  · rw [Nat.min_eq_right h, List.drop_of_length_le (Nat.le_refl _), List.drop_of_length_le h, List.take_nil]
theorem S_add1 (l : List Nat) (c : Nat) : S l ++ (⟨#[c]⟩ : Str) = S (l ++ [c]) := S_add l [c]
theorem szL {n : Nat} (h : n ≤ 100000) : n ≤ sizeLine := Nat.le_trans h (by decide)
theorem szl {n : Nat} (h : n < 100000) : n < sizeLine := Nat.lt_of_lt_of_le h (by decide)

/-! ### rules that the layer lacks -/
section
variable {X : Cx}
theorem call_min3 (hc : X.calm = true) : CallR X (.builtin "min") (fun xs H Q => ∃ i j k : Int, xs = [.int i, .int j, .int k] ∧ Q (.int (min (min i j) k)) H) := by
  intro pins s σ H xs us Q I r h
  obtain ⟨i, j, k, rfl, q⟩ := h
  refine call_min3Nu hc pins s σ H _ us Q I r ⟨.int i, .int j, .int k, .int (min (min i j) k), rfl, ?_, q⟩
  have e1 : nuMin2 (.int i) (.int j) = some (.int (min i j)) := by
    show (some (decide (j < i))).map (fun c => if c = true then V.int j else V.int i) = _
    by_cases h : j < i
    · simp [h, Int.min_eq_right (Int.le_of_lt h)]
    · simp [h, Int.min_eq_left (Int.not_lt.mp h)]
  show (nuMin2 (.int i) (.int j)).bind (fun m => nuMin2 m (.int k)) = _
  rw [e1]
  show (some (decide (k < min i j))).map (fun c => if c = true then V.int k else V.int (min i j)) = _
  by_cases h : k < min i j
  · simp only [h, decide_true, Option.map_some, if_true, Int.min_eq_right (Int.le_of_lt h)]
  · simp only [h, decide_false, Option.map_some, Bool.false_eq_true, if_false, Int.min_eq_left (Int.not_lt.mp h)]
theorem call_min2' (hc : X.calm = true) : CallR X (.builtin "min") (fun xs H Q => ∃ i j : Int, xs = [.int i, .int j] ∧ Q (.int (min i j)) H) := by
  intro pins s σ H xs us Q I r h
  obtain ⟨i, j, rfl, q⟩ := h
  refine call_min2 hc pins s σ H _ us Q I r ⟨i, j, rfl, ?_⟩
  by_cases h : j < i
  · rw [if_pos h]; rw [Int.min_eq_right (Int.le_of_lt h)] at q; exact q
  · rw [if_neg h]; rw [Int.min_eq_left (Int.not_lt.mp h)] at q; exact q
theorem call_max2' (hc : X.calm = true) : CallR X (.builtin "max") (fun xs H Q => ∃ i j : Int, xs = [.int i, .int j] ∧ Q (.int (max i j)) H) := by
  intro pins s σ H xs us Q I r h
  obtain ⟨i, j, rfl, q⟩ := h
  refine call_max2 hc pins s σ H _ us Q I r ⟨i, j, rfl, ?_⟩
  by_cases h : j > i
  · rw [if_pos h]; rw [Int.max_eq_right (Int.le_of_lt h)] at q; exact q
  · rw [if_neg h]; rw [Int.max_eq_left (Int.not_lt.mp h)] at q; exact q
/-- s * n of a text of one sign -/
theorem op_mul_str : OpR X (binaryOp .Mult) (fun x y H Q => ∃ (c : Nat) (n : Nat), x = .str (S [c]) ∧ y = .int (n : Int) ∧ 2 ≤ n ∧ n ≤ 1000 ∧ Q (.str (S (List.replicate n c))) H) := by
  intro pins s σ H x y v u Q I rx ry h
  obtain ⟨c, n, rfl, rfl, h1, h2, q⟩ := h
  obtain ⟨t, rfl⟩ := rx
  obtain ⟨t', rfl⟩ := ry
  have hl : (S [c]).length = 1 := S_len _
  have e : (List.replicate n (#[c] : Array Nat)).foldl (· ++ ·) #[] = (List.replicate n c).toArray := by
    have g : ∀ (n : Nat) (a : Array Nat), (List.replicate n (#[c] : Array Nat)).foldl (· ++ ·) a = a ++ (List.replicate n c).toArray := by
      intro n
      induction n with
      | zero => intro a; simp
      | succ n ih =>
        intro a
        rw [List.replicate_succ, List.foldl_cons, ih]
        apply Array.toList_inj.mp
        simp [List.replicate_succ]
    rw [g]
    apply Array.toList_inj.mp
    simp
  refine PySem.P.mul_str (by
      have a : ¬ ((n : Int) < -(2 ^ 63 : Int)) := by omega
      have b : ¬ ((n : Int) ≥ 2 ^ 63) := by omega
      rw [decide_eq_false a, decide_eq_false b]; rfl) (fun _ _ => ?_) (fun _ _ => ?_) ?_
  · rw [hl]
    have : (1 : Int) ≤ (2 ^ 63 - 1) / (n : Int) := by
      rw [Int.le_ediv_iff_mul_le (by omega)]
      omega
    omega
  · rw [hl]
    have e3 : 1 * (n : Int).toNat = n := by omega
    rw [e3]
    exact decide_eq_false (Nat.not_lt.mpr (szL (by omega)))
  · rw [if_neg (by omega)]
    have g : ((n : Int) == 1 || (S [c]).length == 0) = false := by
      rw [hl]
      have : ((n : Int) == 1) = false := by
        rw [beq_eq_false_iff_ne]; omega
      rw [this]; rfl
    rw [if_neg (by rw [g]; exact Bool.false_ne_true)]
    rw [show (List.replicate (n : Int).toNat (S [c]).cps) = List.replicate n (#[c] : Array Nat) by rw [Int.toNat_natCast], e]
    refine ⟨?_, .str _, H, I.tok _, ⟨_, rfl⟩, q⟩
    show (List.replicate n c).toArray.size ≤ sizeLine
    rw [List.size_toArray, List.length_replicate]
    exact szL (by omega)
end
/-! ### enumerate(text, k), enumerate(list, k) -/
def ItsC (x : Str) (k : Int) : It :=
  ⟨fun i _ => i < x.cps.size, fun i H v H' => ∃ T c, v = .ref T ∧ H T = none ∧ x.cps[i]? = some c ∧ H' = upd H T (.tup [.int (k + (i : Nat)), .str ⟨#[c]⟩]), fun i _ => i = x.cps.size⟩
def IteC (K : PySem.W.Frag) (a : Addr) (k : Int) : It :=
  ⟨fun i H => ∃ (xs : List V) (x : V), SqL K H a xs ∧ xs[i]? = some x, fun i H v H' => ∃ T x, v = .ref T ∧ H T = none ∧ H' = upd H T (.tup [.int (k + (i : Nat)), x]) ∧ ∀ xs, SqL K H a xs → xs[i]? = some x, fun i H => ∃ xs : List V, SqL K H a xs ∧ xs.length = i⟩
section
variable {X : Cx}
/-- one turn, whatever is drawn -/
theorem enum_turn {elts : List Expr} {kk : Nat} {tpos : Pos} {pins : List (Addr × Obj)} {s : Shared} {σ : L2.St} {H : Hp} {E : Value → Shared → Prop} {e it : Addr} {fp fq : List Addr} {n i : Nat} {k : Int} {Pd : Nat → Value → Prop} {Sd : Nat → Heap → Prop} {old : Value}
    {yld : V → Hp → Prop} {tn : Heap → Prop} (I : Inv X pins σ H s) (D : Draws X.prog X.w X.A.in1 it fp n Pd Sd) (he : IsEnum s.heap e it (k + (i : Int)) old) (hst : Sd i s.heap) (hlt : i < n) (hne : e ≠ it) (hef : e ∉ fp)
    (hfq : ∀ b, b ∈ fq ↔ b = e ∨ b = it) (hf : ∀ b ∈ fq, FpOk X pins H b) (hil : it < s.heap.objs.size)
    (hy : ∀ u, Pd i u → ∃ x, RelV x u ∧ ∀ T, H T = none → yld (.ref T) (upd H T (.tup [.int (k + (i : Int)), x])))
    (ht : ∀ h', (∃ x, IsEnum h' e it (k + ((i + 1 : Nat) : Int)) x) → Sd (i + 1) h' → tn h') (hfr : ∀ h1 h2, Sd (i + 1) h1 → (∀ b o, b ≠ e → h1.get? b = some o → h2.get? b = some o) → Sd (i + 1) h2) :
    wpAny (model X.prog X.w) X.A (pyNext (.ref e)) (fun r s1 => ∃ u, r = some u ∧
      wpAny (model X.prog X.w) X.A (letOwnedTupleGo (.Tuple elts kk tpos) (.ref e) u) (fun _ s2 => ∃ x H', Inv X pins σ H' s2 ∧ RelV x u ∧ yld x H' ∧ tn s2.heap ∧ ∀ b ∈ fq, H' b = none) E s1) E s := by
  have hel : e < s.heap.objs.size := Heap.lt_size he
  refine wpAny_pyNext_enum_itemC D he hst hlt hne hef fun u h' tk hP ho hst' hT hsz hk => ?_
  obtain ⟨x, ru, hyx⟩ := hy u hP
  refine ⟨_, rfl, wpAny_letOwnedTupleGo_enum (s := { s with heap := h', toks := tk + 1 }) ho fun h'' he' sb => ?_⟩
  have hT2 : h''.get? s.heap.objs.size = some { cls := .type "tuple", data := .seq #[.int (k + (i : Int)) tk, u] } := (sb.2 _ (Nat.ne_of_gt hel)).trans hT
  have new : ObjOk X.prog X.w (upd H s.heap.objs.size (.tup [.int (k + (i : Int)), x])) h'' s.heap.objs.size (.tup [.int (k + (i : Int)), x]) :=
    ⟨by show 2 ≤ sizeLine; decide, [.int (k + (i : Int)) tk, u], .cons ⟨_, rfl⟩ (.cons ru .nil), ⟨_, hT2, rfl, _, rfl⟩⟩
  have I1 : Inv X pins σ (upd H s.heap.objs.size (.tup [.int (k + (i : Int)), x])) { s with heap := h'', toks := tk + 1 } :=
    I.turnedNew (ch := fq) (fun b ob hb q => (sb.2 b (fun z => hb ((hfq b).mpr (.inl z)))).trans (hk b ob (fun z => hb ((hfq b).mpr (.inl z))) (fun z => hb ((hfq b).mpr (.inr z))) q)) hf (Nat.le_refl _) new
  have hn : H s.heap.objs.size = none := I.hok.fresh (Nat.le_refl _)
  refine ⟨.ref s.heap.objs.size, _, I1, rfl, hyx _ hn, ht h'' ⟨u, ?_⟩ (hfr h' h'' hst' fun b o hb q => (sb.2 b hb).trans q), fun b hb => ?_⟩
  · have e1 : k + ((i + 1 : Nat) : Int) = k + (i : Int) + 1 := by omega
    rw [e1]; exact he'
  · have hb' : b < s.heap.objs.size := by
      rcases (hfq b).mp hb with z | z
      · rw [z]; exact hel
      · rw [z]; exact hil
    rw [upd_ne (Nat.ne_of_lt hb')]
    exact (hf b hb).1
theorem turn_enumS {P : Program} {w : World} {K : PySem.W.Frag} {elts : List Expr} {kk : Nat} {tpos : Pos} (x : Str) (t : Tok) (k : Int) (e it : Addr) :
    Turn P w K (.Tuple elts kk tpos) (ItsC x k) [e, it] e (fun i h => (∃ old, IsEnum h e it (k + ((i : Nat) : Int)) old) ∧ h.IsStrIter it (strIterType x) x t i ∧ e ≠ it) where
  mem := by simp
  obj := fun i h st b hb => by
    obtain ⟨⟨old, he⟩, ⟨o, ho, hc, hd⟩, _⟩ := st
    have e' : b = e ∨ b = it := by simpa using hb
    rcases e' with z | z
    · rw [z]; exact ⟨_, he, fun v q => nomatch q⟩
    · rw [z]; exact ⟨o, ho, fun v q => by rw [hd] at q; cases q⟩
  keep := fun i h h' st k => let ⟨⟨old, he⟩, ⟨o, ho, r⟩, hne⟩ := st; ⟨⟨old, k e (by simp) _ he⟩, ⟨o, k it (by simp) o ho, r⟩, hne⟩
  item := by
    intro X hP hw hK hc i pins s σ H E I hf st hg
    subst hP hw hK
    obtain ⟨⟨old, he⟩, hit, hne⟩ := st
    have hil : it < s.heap.objs.size := by obtain ⟨_, q, _⟩ := hit; exact Heap.lt_size q
    refine enum_turn (fq := [e, it]) (fp := [it]) (n := x.cps.size) (Pd := fun i v => ∃ c u, x.cps[i]? = some c ∧ v = .str ⟨#[c]⟩ u) (Sd := fun i h => h.IsStrIter it (strIterType x) x t i) (yld := (ItsC x k).yld i H) (tn := fun h => (∃ old, IsEnum h e it (k + ((i + 1 : Nat) : Int)) old) ∧ h.IsStrIter it (strIterType x) x t (i + 1) ∧ e ≠ it) I (Draws.text (A := X.A.in1) (I.ok.hd hc) it x t) he hit hg hne (by simpa using hne) (fun b => by simp) hf hil (fun u hu => ?_) (fun h' a b => ⟨a, b, hne⟩) (fun h1 h2 ⟨o, ho, r⟩ hk => ⟨o, hk it o (Ne.symm hne) ho, r⟩)
    obtain ⟨c, u', hcx, rfl⟩ := hu
    exact ⟨.str ⟨#[c]⟩, ⟨_, rfl⟩, fun T hT => ⟨T, c, rfl, hT, hcx, rfl⟩⟩
  done := by
    intro X hP hw hK hc i pins s σ H E I hf st hg
    subst hP hw hK
    obtain ⟨⟨old, he⟩, hit, hne⟩ := st
    obtain ⟨f0, f1, f2, f3, f4, f5⟩ := hf it (by simp)
    obtain rfl : i = x.cps.size := hg
    exact wpAny_pyNext_enum_endD (Draws.text (prog := X.prog) (w := X.w) (A := X.A.in1) (I.ok.hd hc) it x t) he hit fun h' eb => ⟨rfl, I.turned (t' := s.toks) (fun b o hb q => eb b o hb q) f0 f1 f3 f4 f5⟩
  self := fun A i s Q E st h => let ⟨⟨_, he⟩, _⟩ := st; wpAny_pyIter_enum he h
theorem turn_enumL {P : Program} {w : World} {K : PySem.W.Frag} {elts : List Expr} {kk : Nat} {tpos : Pos} (a : Addr) (k : Int) (e it : Addr) :
    Turn P w K (.Tuple elts kk tpos) (IteC K a k) [e, it] e (fun i h => (∃ old, IsEnum h e it (k + ((i : Nat) : Int)) old) ∧ h.IsListIter it a i ∧ e ≠ it ∧ a ≠ it ∧ a ≠ e) where
  mem := by simp
  obj := fun i h st b hb => by
    obtain ⟨⟨old, he⟩, ⟨o, ho, hc, hd⟩, _⟩ := st
    have e' : b = e ∨ b = it := by simpa using hb
    rcases e' with z | z
    · rw [z]; exact ⟨_, he, fun v q => nomatch q⟩
    · rw [z]; exact ⟨o, ho, fun v q => by rw [hd] at q; cases q⟩
  keep := fun i h h' st k => let ⟨⟨old, he⟩, hi, hne⟩ := st; ⟨⟨old, k e (by simp) _ he⟩, hi.at fun o q => k it (by simp) o q, hne⟩
  item := by
    intro X hP hw hK hc i pins s σ H E I hf st hg
    subst hP hw hK
    obtain ⟨⟨old, he⟩, hit, hne, hai, hae⟩ := st
    obtain ⟨xs, x, hq, hx⟩ := hg
    obtain ⟨its, rv, p, hz⟩ := I.list hq
    obtain ⟨u, hu, ru⟩ := rv.get hx
    have hil : it < s.heap.objs.size := by obtain ⟨_, q, _⟩ := hit; exact Heap.lt_size q
    have hsz : its.length = xs.length := rv.length.symm
    have hi : i < its.toArray.size := by
      have := (List.getElem?_eq_some_iff.mp hx).1
      simp; omega
    refine enum_turn (fq := [e, it]) (fp := [it, a]) (n := its.toArray.size) (Pd := fun i v => its.toArray[i]? = some v) (Sd := fun i h => h.IsListIter it a i ∧ h.IsList a its.toArray) (yld := (IteC X.K a k).yld i H) (tn := fun h => (∃ old, IsEnum h e it (k + ((i + 1 : Nat) : Int)) old) ∧ h.IsListIter it a (i + 1) ∧ e ≠ it ∧ a ≠ it ∧ a ≠ e) I (Draws.list (A := X.A.in1) (I.ok.hd hc) it a hai its.toArray) he ⟨hit, p.isList⟩ hi hne (by simp [hne, Ne.symm hae]) (fun b => by simp) hf hil
      (fun u' hu' => ?_) (fun h' q b => ⟨q, b.1, hne, hai, hae⟩) (fun h1 h2 b hk => ⟨b.1.at fun o q => hk it o (Ne.symm hne) q, b.2.at fun o q => hk a o hae q⟩)
    have eu : u' = u := by
      have : its[i]? = some u' := by simpa using hu'
      rw [hu] at this
      exact (Option.some.inj this).symm
    subst eu
    exact ⟨x, ru, fun T hT => ⟨T, x, rfl, hT, rfl, fun ys hy => by rw [I.list_inj hy hq]; exact hx⟩⟩
  done := by
    intro X hP hw hK hc i pins s σ H E I hf st hg
    subst hP hw hK
    obtain ⟨⟨old, he⟩, hit, hne, hai, hae⟩ := st
    obtain ⟨xs, hq, hx⟩ := hg
    obtain ⟨its, rv, p, hz⟩ := I.list hq
    obtain ⟨f0, f1, f2, f3, f4, f5⟩ := hf it (by simp)
    have hsz : i = its.toArray.size := by
      have := rv.length
      simp; omega
    subst hsz
    exact wpAny_pyNext_enum_endD (Draws.list (prog := X.prog) (w := X.w) (A := X.A.in1) (I.ok.hd hc) it a hai its.toArray) he ⟨hit, p.isList⟩ fun h' eb => ⟨rfl, I.turned (t' := s.toks) (fun b o hb q => eb b o hb q) f0 f1 f3 f4 f5⟩
  self := fun A i s Q E st h => let ⟨⟨_, he⟩, _⟩ := st; wpAny_pyIter_enum he h
/-- enumerate(v, k) of a text or a list -/
def iEnumC (K : PySem.W.Frag) (ta : TA) : TI := fun σ H R => ta σ H fun vs H1 => ∃ (v : V) (k : Int), vs = [v, .int k] ∧ (0 ≤ k ∧ k ≤ 1000) ∧ ((∃ x, v = .str x ∧ R (ItsC x k) H1) ∨ ∃ a xs, v = .ref a ∧ SqL K H1 a xs ∧ R (IteC K a k) H1)
theorem pi_enumC {e e2 : Expr} {ta : TA} {p pos tpos : Pos} {elts : List Expr} {kk : Nat} (hg : Gl X "enumerate") (hm : X.mg "enumerate" = none) (ha : PA X [e, e2] ta)
    (hs : starEach [e, e2] X.env = (false, eval e X.env) :: starEach [e2] X.env := by rfl) (hpl : (backTo pos (starEach [e2] X.env)).any (·.1) = false := by rfl) :
    PI X (.Tuple elts kk tpos) (.Call (.Name "enumerate" p) [e, e2] [] pos) (iEnumC X.K ta) := by
  refine ⟨fun pins s σ H R I h => ?_⟩
  refine Call_ (ld_blt I hg hm boot_enumerate (PyProof.Rows.callWith_type1 (thn (ha.run pos pins s σ H _ I h) fun us s1 ⟨vs, H1, I1, r1, q1⟩ => ?_) hs hpl))
  obtain ⟨v, k, ex, ⟨k0, k1⟩, q⟩ := q1
  subst ex
  obtain ⟨u, u', rfl, rv, t, rfl⟩ := vals2 r1
  have fin : ∀ b : Addr, b = s1.heap.objs.size + 1 ∨ b = s1.heap.objs.size → FpOk X pins H1 b := fun b e' => by
    have hle : s1.heap.objs.size ≤ b := by
      rcases e' with z | z
      · rw [z]; exact Nat.le_add_right _ _
      · rw [z]; exact Nat.le_refl _
    exact I1.fpOk hle (I1.hok.fresh hle)
  rcases q with ⟨x, rfl, q⟩ | ⟨a, xs, rfl, hq, q⟩
  · obtain ⟨tx, rfl⟩ := rv
    refine enum_begins (begins_text x tx) trivial (by omega) (by omega) fun h' he hit hsz hk => wpAny_pyIter_enum he ?_
    have I2 : Inv X pins σ H1 { s1 with heap := h' } := I1.kept (t' := s1.toks) hk
    refine ⟨s1.heap.objs.size + 1, [s1.heap.objs.size + 1, s1.heap.objs.size], _, _, H1, rfl, I2, turn_enumS x tx k (s1.heap.objs.size + 1) s1.heap.objs.size, ⟨⟨.none, by simpa using he⟩, ⟨_, hit, rfl, rfl⟩, Nat.succ_ne_self _⟩, fun b hb => fin b (by simpa using hb), q⟩
  · cases rv
    obtain ⟨its, rv', p', hz⟩ := I1.list hq
    refine enum_begins (begins_list a its.toArray) p'.isList (by omega) (by omega) fun h' he hit hsz hk => wpAny_pyIter_enum he ?_
    have I2 : Inv X pins σ H1 { s1 with heap := h' } := I1.kept (t' := s1.toks) hk
    have hal : a < s1.heap.objs.size := by
      obtain ⟨o, ho, _⟩ := p'.isList
      exact Heap.lt_size ho
    refine ⟨s1.heap.objs.size + 1, [s1.heap.objs.size + 1, s1.heap.objs.size], _, _, H1, rfl, I2, turn_enumL a k (s1.heap.objs.size + 1) s1.heap.objs.size, ⟨⟨.none, by simpa using he⟩, ⟨_, hit, rfl, rfl⟩, Nat.succ_ne_self _, Nat.ne_of_lt hal, Nat.ne_of_lt (Nat.lt_succ_of_lt hal)⟩, fun b hb => fin b (by simpa using hb), q⟩
end
theorem for_enumS {x : Str} {k : Int} {g : TG} {tb : TS} {D : Ends} {σ : L2.St} {H : Hp} (Pv : Nat → L2.St → Hp → Prop) (h0 : Pv 0 σ H)
    (hs : ∀ (i c : Nat) (T : Addr) (σ : L2.St) (H : Hp), x.cps[i]? = some c → Pv i σ H → H T = none → g (.ref T) σ (upd H T (.tup [.int (k + (i : Nat)), .str ⟨#[c]⟩])) fun σ2 H2 => tb { D with nx := Pv (i + 1), ct := Pv (i + 1), bk := D.nx } σ2 H2) (hd : ∀ σ H, Pv x.cps.size σ H → D.nx σ H) :
    ∃ W : Nat → Nat → L2.St → Hp → Prop, (∃ m, W 0 m σ H) ∧ ∀ i m σ H, W i m σ H →
      ((ItsC x k).stop i H ∧ D.nx σ H) ∨ ((ItsC x k).go i H ∧ ∃ N : L2.St → Hp → Prop, (∀ σ' H', N σ' H' → ∃ m', m' < m ∧ W (i + 1) m' σ' H') ∧ ∀ v H', (ItsC x k).yld i H v H' → g v σ H' fun σ2 H2 => tb { D with nx := N, ct := N, bk := D.nx } σ2 H2) := by
  refine ⟨fun i m σ H => m = x.cps.size - i ∧ i ≤ x.cps.size ∧ Pv i σ H, ⟨x.cps.size, rfl, Nat.zero_le _, h0⟩, ?_⟩
  rintro i m σ H ⟨rfl, hi, p⟩
  by_cases hlt : i < x.cps.size
  · refine .inr ⟨hlt, Pv (i + 1), fun σ' H' p' => ⟨x.cps.size - (i + 1), by omega, rfl, hlt, p'⟩, fun v H' y => ?_⟩
    obtain ⟨T, c, rfl, hT, hc, rfl⟩ := y
    exact hs i c T σ H hc p hT
  · have e : i = x.cps.size := by omega
    subst e
    exact .inl ⟨rfl, hd σ H p⟩
theorem for_enumLC {K : PySem.W.Frag} {a : Addr} {xs : List V} {k : Int} {g : TG} {tb : TS} {D : Ends} {σ : L2.St} {H : Hp} (Pv : Nat → L2.St → Hp → Prop) (h0 : Pv 0 σ H) (hl : ∀ i σ H, i ≤ xs.length → Pv i σ H → SqL K H a xs)
    (hs : ∀ (i : Nat) (x : V) (T : Addr) (σ : L2.St) (H : Hp), xs[i]? = some x → Pv i σ H → H T = none → g (.ref T) σ (upd H T (.tup [.int (k + (i : Nat)), x])) fun σ2 H2 => tb { D with nx := Pv (i + 1), ct := Pv (i + 1), bk := D.nx } σ2 H2) (hd : ∀ σ H, Pv xs.length σ H → D.nx σ H) :
    ∃ W : Nat → Nat → L2.St → Hp → Prop, (∃ m, W 0 m σ H) ∧ ∀ i m σ H, W i m σ H →
      ((IteC K a k).stop i H ∧ D.nx σ H) ∨ ((IteC K a k).go i H ∧ ∃ N : L2.St → Hp → Prop, (∀ σ' H', N σ' H' → ∃ m', m' < m ∧ W (i + 1) m' σ' H') ∧ ∀ v H', (IteC K a k).yld i H v H' → g v σ H' fun σ2 H2 => tb { D with nx := N, ct := N, bk := D.nx } σ2 H2) := by
  refine ⟨fun i m σ H => m = xs.length - i ∧ i ≤ xs.length ∧ Pv i σ H, ⟨xs.length, rfl, Nat.zero_le _, h0⟩, ?_⟩
  rintro i m σ H ⟨rfl, hi, p⟩
  have q := hl i σ H hi p
  by_cases hlt : i < xs.length
  · have hx : xs[i]? = some xs[i] := List.getElem?_eq_getElem hlt
    refine .inr ⟨⟨xs, _, q, hx⟩, Pv (i + 1), fun σ' H' p' => ⟨xs.length - (i + 1), by omega, rfl, hlt, p'⟩, fun v H' y => ?_⟩
    obtain ⟨T, x, rfl, hT, rfl, hf⟩ := y
    exact hs i x T σ H (hf xs q) p hT
  · have e : i = xs.length := by omega
    subst e
    exact .inl ⟨⟨xs, q, rfl⟩, hd σ H p⟩
/-! ### isinstance of data -/
theorem kit2 {K : PySem.W.Frag} {a b c : String} {r1 r2 : Bool} (h1 : kitB a b = some r1) (h2 : kitB a c = some r2) : PySem.W.kitAny K (.type a) [.type b, .type c] = some (r1 || r2) := by
  refine kitAny_cons (kit_ty h1) (fun e => ?_) (fun e => by rw [e]; rfl)
  subst e
  refine kitAny_cons (kit_ty h2) (fun e => ?_) (fun e => by rw [e]; rfl)
  subst e
  rfl
/-- x is True, x None or a bool -/
theorem op_isB {X : Cx} : OpR X (compareOp .Is) (fun x y H Q => ∃ b, y = .bl b ∧ (x = .non ∨ ∃ a, x = .bl a) ∧ Q (.bl (decide (x = y))) H) := by
  intro pins s σ H x y v u Q I rx ry h
  obtain ⟨b, rfl, hx, q⟩ := h
  cases (show u = Value.bool b from ry)
  rcases hx with rfl | ⟨a, rfl⟩
  · cases (show v = Value.none from rx)
    exact wpAny_is_other rfl (fun z => by cases z) ⟨.bl false, H, I, rfl, by simpa using q⟩
  · cases (show v = Value.bool a from rx)
    by_cases e : a = b
    · subst e
      exact wpAny_is_self rfl ⟨.bl true, H, I, rfl, by simpa using q⟩
    · exact wpAny_is_other rfl (fun z => e (Value.bool.inj z)) ⟨.bl false, H, I, rfl, by simpa [e] using q⟩
/-! ### a for over a list or a tuple -/
def iSeq (K : PySem.W.Frag) (tl : TE) : TI := fun σ H R => tl σ H fun x H1 => ∃ a, x = .ref a ∧ (((∃ xs, SqL K H1 a xs) ∧ R (Itl K a) H1) ∨ ((∃ xs, SqT K H1 a xs) ∧ R (Itt K a) H1))
theorem pi_seq {X : Cx} {tg l : Expr} {tl : TE} (hl : PE X l tl) : PI X tg l (iSeq X.K tl) := by
  refine ⟨fun pins s σ H R I h => ?_⟩
  refine thn (hl.run pins s σ H _ I h) fun v s1 ⟨x, H1, I1, r1, q1⟩ => ?_
  obtain ⟨a, e, q1⟩ := q1
  subst e
  cases r1
  have fin : ∀ b ∈ [s1.heap.objs.size], FpOk X pins H1 b := fun b hb => by
    have e : b = s1.heap.objs.size := by simpa using hb
    subst e
    exact I1.fpOk (Nat.le_refl _) (I1.hok.fresh (Nat.le_refl _))
  rcases q1 with ⟨⟨xs, hq⟩, q⟩ | ⟨⟨xs, hq⟩, q⟩
  · obtain ⟨its, rv, p, hz⟩ := I1.list hq
    refine wpAny_pyIter_list p.isList ?_
    exact ⟨s1.heap.objs.size, [s1.heap.objs.size], _, _, H1, rfl, I1.kept (t' := s1.toks) fun b o e => Heap.get?_push_of_some _ e, turn_list a _, ⟨_, Heap.get?_push_size _ rfl, rfl, rfl⟩, fin, q⟩
  · obtain ⟨its, rv, p, hz⟩ := I1.tuple hq
    refine wpAny_pyIter_tuple (show s1.heap.IsTuple a its.toArray from p) ?_
    exact ⟨s1.heap.objs.size, [s1.heap.objs.size], _, _, H1, rfl, I1.kept (t' := s1.toks) fun b o e => Heap.get?_push_of_some _ e, turn_tuple a _, ⟨_, Heap.get?_push_size _ rfl, rfl, rfl⟩, fin, q⟩
/-! ### heaps -/
theorem Same.tup {K : PySem.W.Frag} {H H' : Hp} {a : Addr} {xs : List V} (e : Same H H') (h : SqT K H a xs) : SqT K H' a xs := by
  rcases h with (h | ⟨o, h⟩) | h
  · exact .inl (.inl (e _ _ h))
  · exact .inl (.inr ⟨o, e _ _ h⟩)
  · exact .inr h
mutual
theorem dp_mono {K : PySem.W.Frag} {H H' : Hp} (e : Same H H') : ∀ (d : PyData) (v : V), Dp K H v d → Dp K H' v d
  | .none, _, h => by cases h; exact .non
  | .bool b, _, h => by cases h; exact .bl b
  | .int i, _, h => by cases h; exact .int i
  | .str x, _, h => by cases h; exact .str x
  | .list ds, _, h => by cases h with | lst h1 h2 => exact .lst (e.seq h1) (dpAll_mono e ds _ h2)
  | .tuple ds, _, h => by cases h with | tup h1 h2 => exact .tup (Same.tup e h1) (dpAll_mono e ds _ h2)
  | .dict _, _, h => by cases h
theorem dpAll_mono {K : PySem.W.Frag} {H H' : Hp} (e : Same H H') : ∀ (ds : List PyData) (vs : List V), DpAll K H vs ds → DpAll K H' vs ds
  | [], _, h => by cases h; exact .nil
  | d :: ds, _, h => by cases h with | cons h1 h2 => exact .cons (dp_mono e d _ h1) (dpAll_mono e ds _ h2)
end
theorem dpAll_len {K : PySem.W.Frag} {H : Hp} : ∀ {vs : List V} {ds : List PyData}, DpAll K H vs ds → vs.length = ds.length
  | _, _, .nil => rfl
  | _, _, .cons _ t => by rw [List.length_cons, List.length_cons, dpAll_len t]
theorem dpAll_get {K : PySem.W.Frag} {H : Hp} : ∀ {vs : List V} {ds : List PyData}, DpAll K H vs ds → ∀ (i : Nat) (v : V), vs[i]? = some v → ∃ d, ds[i]? = some d ∧ Dp K H v d
  | _, _, .nil, i, v, h => by simp at h
  | _, _, .cons a t, 0, v, h => by simp at h; subst h; exact ⟨_, rfl, a⟩
  | _, _, .cons a t, i + 1, v, h => by
    obtain ⟨d, h1, h2⟩ := dpAll_get t i v (by simpa using h)
    exact ⟨d, by simpa using h1, h2⟩
theorem dpAll_snoc {K : PySem.W.Frag} {H : Hp} : ∀ {vs : List V} {ds : List PyData} {v : V} {d : PyData}, DpAll K H vs ds → Dp K H v d → DpAll K H (vs ++ [v]) (ds ++ [d])
  | _, _, _, _, .nil, h => .cons h .nil
  | _, _, _, _, .cons a t, h => .cons a (dpAll_snoc t h)
theorem tyL {K : PySem.W.Frag} {H : Hp} {a : Addr} {xs : List V} (h : SqL K H a xs) : TyX K H (.ref a) (.type "list") := by
  rcases h with (h | ⟨o, h⟩) | ⟨o, its, n, h1, h2, _⟩
  · exact .base (.lst h)
  · exact .base (.frz h)
  · exact .kList h1 h2
theorem tyT {K : PySem.W.Frag} {H : Hp} {a : Addr} {xs : List V} (h : SqT K H a xs) : TyX K H (.ref a) (.type "tuple") := by
  rcases h with (h | ⟨o, h⟩) | ⟨o, its, n, h1, h2, _⟩
  · exact .base (.tup h)
  · exact .fTuple h
  · exact .kTuple h1 h2
/-- data without dicts, at most n levels deep, no list too long -/
def okD : Nat → PyData → Prop
  | _, .none => True
  | _, .bool _ => True
  | _, .int _ => True
  | _, .str _ => True
  | n + 1, .list xs => xs.length ≤ 50000 ∧ ∀ x ∈ xs, okD n x
  | n + 1, .tuple xs => xs.length ≤ 50000 ∧ ∀ x ∈ xs, okD n x
  | _, _ => False
mutual
/-- what _law_plain makes -/
def plainD : PyData → PyData
  | .none => .str "None"
  | .bool b => .str (if b = true then "True" else "False")
  | .int i => .list [.bool false, .int i]
  | .str s => .list [.bool true, .str s]
  | .list xs => .list (.bool true :: plainAll xs)
  | .tuple xs => .list (.bool false :: plainAll xs)
  | .dict _ => .str "another"
def plainAll : List PyData → List PyData
  | [] => []
  | d :: ds => plainD d :: plainAll ds
end
theorem plainAll_map : ∀ ds : List PyData, plainAll ds = ds.map plainD
  | [] => by rw [plainAll]; rfl
  | d :: ds => by rw [plainAll, plainAll_map ds]; rfl
/-- v' is data d that stands on what came new behind H, as H' has it -/
def NewD (K : PySem.W.Frag) (H H' : Hp) (v : V) (d : PyData) : Prop := ∀ H2 : Hp, (∀ b o, H' b = some o → H b = none → H2 b = some o) → Dp K H2 v d
/-- items that stand on what came new behind H, all but D -/
def NewAll (K : PySem.W.Frag) (H : Hp) (D : Addr) (H' : Hp) (vs : List V) (ds : List PyData) : Prop := ∀ H2 : Hp, (∀ b o, H' b = some o → H b = none → b ≠ D → H2 b = some o) → DpAll K H2 vs ds
theorem none_of_same {H H' : Hp} {b : Addr} (e : Same H H') (h : H' b = none) : H b = none := e.free h
theorem NewAll.snoc {K : PySem.W.Frag} {H H1 H2 : Hp} {D : Addr} {vs : List V} {ds : List PyData} {v : V} {d : PyData} {o : HO} {z : HO} (h : NewAll K H D H1 vs ds) (hs : Same H H1) (hD : H1 D = some o) (s : Same H1 H2) (n : NewD K H1 H2 v d) : NewAll K H D (upd H2 D z) (vs ++ [v]) (ds ++ [d]) := fun H3 k =>
  dpAll_snoc (h H3 fun b o e n0 nD => k b o (by rw [upd_ne nD]; exact s b o e) n0 nD) (n H3 fun b u e n1 => by
    have nD : b ≠ D := fun z => by rw [z, hD] at n1; cases n1
    exact k b u (by rw [upd_ne nD]; exact e) (hs.free n1) nD)
theorem NewD.dp {K : PySem.W.Frag} {H H' : Hp} {v : V} {d : PyData} (h : NewD K H H' v d) : Dp K H' v d := h H' fun _ _ e _ => e
theorem same_upd {H : Hp} {p : Addr} {o : HO} (h : H p = none) : Same H (upd H p o) := fun b x e => by
  rw [upd_ne (ne_of_none e h)]
  exact e
/-- a new object changes -/
theorem same_mut {H H' : Hp} {p : Addr} {o : HO} (e : Same H H') (h : H p = none) : Same H (upd H' p o) := fun b x q => by
  rw [upd_ne (ne_of_none q h)]
  exact e b x q
/-- all but p is kept -/
def Kp (p : Addr) (H H' : Hp) : Prop := ∀ b o, H b = some o → b ≠ p → H' b = some o
theorem Kp.refl (p : Addr) (H : Hp) : Kp p H H := fun _ _ e _ => e
theorem Kp.trans {p : Addr} {H H1 H2 : Hp} (a : Kp p H H1) (b : Kp p H1 H2) : Kp p H H2 := fun c o e n => b c o (a c o e n) n
theorem Kp.of {p : Addr} {H H' : Hp} (h : Same H H') : Kp p H H' := fun b o e _ => h b o e
theorem Kp.upd {p : Addr} {H : Hp} {o : HO} : Kp p H (upd H p o) := fun b u e n => by rw [upd_ne n]; exact e
theorem ite_c {b : Bool} {x y : V} {σ : L2.St} {H : Hp} {Q : VK} (h : Q (if b = true then x else y) H) : if b = true then tC x σ H Q else tC y σ H Q := by
  cases b with
  | true => exact h
  | false => exact h
theorem if_int {b : Bool} {i j : Int} : (if b = true then V.int i else V.int j) = V.int (if b = true then i else j) := by cases b <;> rfl
/-- atI by places -/
theorem atI_ofNat {α : Type} {xs : List α} {i : Int} {v : α} (h0 : 0 ≤ i) (h : xs[i.toNat]? = some v) : atI xs i = some v := by
  have e : i = ((i.toNat : Nat) : Int) := by omega
  rw [e]
  exact atI_nat h
theorem atI_neg {α : Type} {xs : List α} {i : Int} {v : α} (h0 : i < 0) (h1 : -(xs.length : Int) ≤ i) (h : xs[(i + xs.length).toNat]? = some v) : atI xs i = some v := by
  have e : ixN xs.length i = some (i + xs.length).toNat := by
    unfold ixN
    rw [if_neg (by omega), if_pos h1]
  unfold atI
  rw [e]
  exact h
end Tw
set_option Elab.async false
set_option linter.all false
set_option maxRecDepth 100000
set_option maxHeartbeats 4000000
/-! a method whose first statement is super().__init__(..), the base above ValueError; and own exceptions -/
namespace ExS
open PySem PySem.Spec PyProof.Rows L2 NdefX
open PySem.W (kxs_mw)
section
variable {prog : Program} {w : World} {A : Around} {E : Value → Shared → Prop} {h : Heap} {g : Array GenState} {d : Drawn} {t : Nat} {os : OsState}
variable {nm q : Str} {C N : Addr} {bs bm : List Value} {hdct : Bool} {sn : List Str} {sub : List Value} {ab : Bool} {col : Option Bool} {dd : Option Addr} {k0 k1 k2 k3 k5 : Option Value}
theorem call_mw {u e t0 : Addr} {rest : List Value} {Q : Value → Shared → Prop}
    (hC : h.get? C = some (excClassObj nm q C N bs bm hdct sn sub ab col dd k0 k1 k2 k3 k5 "ValueError.__new__")) (he : h.get? e = some (HandSPX.excO C t0)) (hu : h.get? u = some (kxs_mw "ValueError.__init__" e)) (hrest : rest.length ≤ sizeLine)
    (hq : ∀ h' t1, (∀ b o, b ≠ e → h.get? b = some o → h'.get? b = some o) → h'.get? e = some (HandSPX.excO C t1) → Q .none ⟨h', g, d, t, os⟩) :
    wpAny (model prog w) A (call (.ref u) rest) Q E ⟨h, g, d, t, os⟩ := by
  refine wpAny_call (codeAny_of_tree ?_)
  show wpAny _ A.in1 (callAny (.ref u) ⟨rest, []⟩) _ _ _
  simp only [callAny]
  refine wpAny_bind (wpAny_load hu ?_)
  simp only [kxs_mw, show (Value.type "method-wrapper" == Value.type "method" || Value.type "method-wrapper" == Value.type "builtin_function_or_method" || Value.type "method-wrapper" == Value.type "method-wrapper") = true by decide, if_true]
  refine W.KFB.if_so (by decide) ?_
  refine wpAny_bind (W.check_bound_init F.excBase_ValueError.toExcCallFacts hC he rfl ?_)
  refine wpAny_bind (wpAny_pure (wpAny_pure ?_))
  refine ⟨Code.quiet_builtin _ (by decide +kernel), codeAny_builtin F.excBase_ValueError.initEntry ?_⟩
  exact W.exc_init_tree (cls := .ref C) (t0 := t0) (dv := none) (c2 := .none) (c3 := .none) (b4 := .bool false) he hrest fun h' k e' _ => hq h' _ k e'
theorem callWith_mw {M : Model} {s : Shared} {pos : Pos} {u x : Addr} {first : List Value} {args : List (Bool × Sem Value)} {Q : Value → Shared → Prop} (hplain : args.any (·.1) = false)
    (h : wpAny M A (evalArgs (.ref u) true args []) (fun ar s₁ => s₁.heap.get? u = some (kxs_mw "ValueError.__init__" x) ∧ wpAny M A (call (.ref u) (first ++ ar.pos) ar.kw) Q E s₁) E s) : wpAny M A (callWith pos (.ref u) first args []) Q E s :=
  W.kxs_callWith (i := "ValueError.__init__") (x := x) hplain h
theorem callWith_mw1 {M : Model} {s : Shared} {pos : Pos} {u x : Addr} {env : Env} {e : Expr} {rest : List Expr} {Q : Value → Shared → Prop}
    (h : wpAny M A (spliced (backTo pos (starEach (e :: rest) env))) (fun vs s₁ => s₁.heap.get? u = some (kxs_mw "ValueError.__init__" x) ∧ wpAny M A (call (.ref u) vs) Q E s₁) E s)
    (he : starEach (e :: rest) env = (false, eval e env) :: starEach rest env := by rfl) (hplain : (backTo pos (starEach rest env)).any (·.1) = false := by rfl) :
    wpAny M A (callWith pos (.ref u) [] (backTo pos (starEach (e :: rest) env)) []) Q E s := by
  rw [he] at h ⊢
  refine callWith_mw (x := x) (by show (false || (backTo pos (starEach rest env)).any (·.1)) = false; rw [hplain]; rfl) ?_
  exact Calls.evalArgs_plain h
end
section
variable {X : Cx} {pins : List (Addr × Obj)} {σ : L2.St} {H : Hp} {s : Shared} {a C u : Addr} {A : Around} {E : Value → Shared → Prop}
/-- the wrapper called: the arguments are laid anew, nothing of it is told -/
theorem mw_ok {us : List Value} {Q : Value → Shared → Prop} (T : OexC X.K C) (I : Inv X pins σ H s) (e : H a = some (exo a C none)) (hu : s.heap.get? u = some (kxs_mw "ValueError.__init__" a)) (hl : us.length ≤ sizeLine) (h : ∀ s', Inv X pins σ H s' → Q .none s') :
    wpAny (model X.prog X.w) A (call (.ref u) us) Q E s := by
  obtain ⟨nm, q, N, bs, bm, sn, sub, ab, col, dd, k0, k1, k2, k3, k5, hC, hbm⟩ := T.cls
  obtain ⟨t1, ho⟩ := exo_at I.hok e
  obtain ⟨hp, g, d, t, os⟩ := s
  refine call_mw (I.kIn _ _ hC) ho hu hl fun h' t2 k hx => ?_
  have J := I.write (t' := t) (x := a) (e := a) (o := exo a C none) (by rw [e]; exact True.intro) (.inl rfl) k ⟨_, hx⟩ (exo_ok hx)
  have eu : upd H a (exo a C none) = H := by
    funext b
    by_cases hb : b = a
    · rw [hb, upd_same, e]
    · rw [upd_ne hb]
  rw [eu] at J
  exact h _ J
end
/-! ### the def -/
/-- what the written part says of a method that says super() -/
structure SupM (P : Program) (K : PySem.W.Frag) (mg : Str → Option Value) (D cda cc : Addr) (qual : Str) : Prop where
  code : PySem.W.codeIn K (.ref cda) qual = true
  cod : ∃ ccl cdd vs ccs file tf, K.lookup cda = some ⟨ccl, cdd, .fields vs, ccs⟩ ∧ vs[2]? = some (.str file tf) ∧ ((P.main.file : Str) == file) = true
  cell : ∃ cl cld csl, K.lookup cc = some ⟨cl, cld, .cell (some (.ref D)), csl⟩
  clD : ∃ cdD, PySem.W.clsIn K D = some cdD
  sup : mg "super" = none
  tp : PySem.W.nsIn K cStatics "thirdparty.any" = some none
  top : (P.main.scope.names.lookup ("super" : Str)).isSome = false
/-- what it says of a class whose objects get there -/
structure SupC (K : PySem.W.Frag) (C D : Addr) : Prop where
  hs : PySem.W.ks_superIn K C D "__init__" = some (some (.builtin "ValueError.__init__"))
  sub : PySem.W.mroIn K C (.ref D) = some true
  sve : PySem.W.subIn K (.ref C) (.type "ValueError") = some true
/-- the reading of the first statement: a the object -/
def tSup (a C : Addr) (ta : TA) (tr : TS) : TS := fun D σ H => H a = some (exo a C none) ∧ ta σ H fun us H1 => us.length ≤ 1000 ∧ H1 a = some (exo a C none) ∧ tr D σ H1
section
variable {CX : CXT} {P : Program} {w : World} {K : PySem.W.Frag} {mg : Str → Option Value} {base : Heap} {N ps : List Str} {k : Nat} {sp : Sp} {f D cda cc : Addr} {od : Option Addr} {osl : Array (Option Value)} {oc doc pm ct kV : Value} {an : Option Addr} {F : NF}
theorem wpAt_super {X : Cx} {pins : List (Addr × Obj)} {σ : L2.St} {H : Hp} {s : Shared} {body : List Stmt} {p0 p1 p2 p3 : Pos} {e : Expr} {es : List Expr} {ta : TA} {a C : Addr} {fd : FuncData} {ar : Arg} {q0 : Str} {pl : Sem Bool} {Q : Value → Shared → Prop}
    (M : SupM X.prog X.K X.mg D cda cc q0) (S : SupC X.K C D) (T : OexC X.K C) (hfo : X.K.lookup f = some ⟨oc, od, .func fd, osl⟩) (hp : (fd.params.posonlyargs ++ fd.params.args).head? = some ar)
    (henv : X.env.func = some f) (hco : X.env.code = .ref cda) (hks : X.env.kindOf "super" = some .globalImplicit) (hkc : X.env.kindOf "__class__" = some .free) (hcc : X.env.cells.lookup ("__class__" : Str) = some cc)
    (hka : X.env.kindOf ar.arg = some .local) (hN : X.N[0]? = some ar.arg) (hσ : σ[0]? = some (some (.ref a))) (hpn : X.pn = []) (hpins : pins = [])
    (ha : PA X (e :: es) ta) (I : Inv X pins σ H s) (he0 : H a = some (exo a C none))
    {R : Hp → Prop} (hq : ta σ H fun us H1 => us.length ≤ 1000 ∧ H1 a = some (exo a C none) ∧ R H1) (hR : ∀ s' H1, Inv X pins σ H1 s' → R H1 → Q .none s')
    (hc : eval (.Call (.Attribute (.Call (.Name "super" p0) [] [] p1) "__init__" p2) (e :: es) [] p3) X.env = (do
      let ov ← attributeBase (.Call (.Name "super" p0) [] [] p1) "__init__" X.env (eval (.Call (.Name "super" p0) [] [] p1) X.env)
      standAt p2.atName
      let (f, first) ← holding [ov] (getMethod ov "__init__" pl)
      callWith p3 f first (backTo p3 (starEach (e :: es) X.env)) []))
    (he : starEach (e :: es) X.env = (false, eval e X.env) :: starEach es X.env) (hpl : (backTo p3 (starEach es X.env)).any (·.1) = false) :
    PySem.wpAt (model X.prog X.w) X.A (.func body X.env) (eval (.Call (.Attribute (.Call (.Name "super" p0) [] [] p1) "__init__" p2) (e :: es) [] p3) X.env) Q X.xe s := by
  obtain ⟨ccl, cdd, vs, ccs, file, tf, hcode, hvs, hfile⟩ := M.cod
  obtain ⟨cl, cld, csl, hcell⟩ := M.cell
  obtain ⟨cdD, hD⟩ := M.clD
  have KX := I.kIn
  obtain ⟨t1, ho⟩ := exo_at I.hok he0
  obtain ⟨oD, hD1, hD2⟩ : ∃ oD, s.heap.get? D = some oD ∧ oD.data = .cls cdD := by
    unfold PySem.W.clsIn at hD
    split at hD
    · rename_i c d cd' sl ho
      cases hD
      exact ⟨_, KX _ _ ho, rfl⟩
    · cases hD
  have hk := I.ok.kind
  refine PySem.ks_wpAt_MethodCall (pl := pl) ?_ hc
  refine PySem.ks_wpAt_super_base (env := X.env) hks hkc (by decide) henv (KX _ _ hfo) rfl hp hco (KX _ _ hcode) rfl hvs hfile M.top ?_
  obtain ⟨mb, hb1, hb2⟩ := I.mod.blt
  refine PySem.W.ks_loadName_global hk hks (Calls.loadGlobal_builtin (by rw [I.ok.glob]; exact I.mod.glob.keeps I.bk) M.sup (by rw [I.ok.blt]; exact hb1.keeps I.bk) ((hb2 _ (by decide)).trans Boot.«super») ⟨rfl, ?_⟩)
  refine wpAny_loadName_free hk hkc hcc ⟨_, KX _ _ hcell, rfl⟩ ?_
  obtain ⟨m, hns, hlk⟩ := I.loc
  obtain ⟨u0, r0, hl0⟩ := hlk 0 ar.arg (.ref a) hN hσ (.inl hka)
  obtain rfl : u0 = Value.ref a := r0
  have hm : m ar.arg = some (.ref a) := by
    rcases hl0 with ⟨_, z⟩ | ⟨z, _⟩
    · exact z
    · rcases z with z | z <;> rw [hka] at z <;> cases z
  refine wpAny_loadName_local hk hka hns hm ?_
  refine ks_wpAny_isType_cls hD1 hD2 ⟨rfl, ?_⟩
  obtain ⟨hp, g, d, t, os⟩ := s
  refine ks_wpAny_call_super (C := C) hD1 hD2 ho rfl (fun c z => by cases z) (PySem.W.looks_mroIn KX S.sub) (fun h' e1 k1 => ?_)
  have I1 : Inv X pins σ H ⟨h', g, d, t, os⟩ := I.kept k1
  have KX1 := I1.kIn
  have ho1 := k1 _ _ ho
  cases hcl : PySem.W.clsIn X.K C with
  | none =>
    have z := S.hs
    unfold PySem.W.ks_superIn at z
    rw [hcl] at z
    cases z
  | some cd =>
  have hs := S.hs
  unfold PySem.W.ks_superIn at hs
  rw [hcl] at hs
  have IA : PySem.W.InstAt h' a { cls := .ref C, dict := none, data := .fields #[.ref t1, .none, .none, .none, .bool false, .none] } C none := ⟨ho1, rfl, rfl, trivial⟩
  have hne : a ≠ C := PySem.W.ks_ne KX1 IA hcl
  refine PySem.W.kxs_getMethod PySem.W.kxs_ValueError (l₀ := cd.mro) e1 (PySem.W.looks_opaque KX1 M.tp) (fun A Q E s k q => wpAny_bind ((PySem.W.looks_clsIn KX1 hcl) A _ E s k (wpAny_pure q))) rfl KX1 hs (IA.type.andThen (PySem.W.looks_subIn KX1 S.sve)) hne (by decide) ?_
  have I2 : Inv X pins σ H ⟨h'.push (kxs_mw "ValueError.__init__" a), g, d, t + 1, os⟩ := I1.kept fun b o z => Heap.get?_push_of_some _ z
  have hmw : (h'.push (kxs_mw "ValueError.__init__" a)).get? h'.objs.size = some (kxs_mw "ValueError.__init__" a) := Heap.get?_push_size _ rfl
  have I3 : Inv X [(h'.objs.size, kxs_mw "ValueError.__init__" a)] σ H ⟨h'.push (kxs_mw "ValueError.__init__" a), g, d, t + 1, os⟩ := I2.pins_of fun p hp => by
    rw [List.mem_singleton] at hp
    subst hp
    exact ⟨hmw, I1.hok.fresh (Nat.le_refl _), fun z => absurd I1.lt (by rw [← z]; exact Nat.lt_irrefl _), I1.nofs (Nat.le_refl _), fun v z => by cases z⟩
  show wpAny _ _ (callWith p3 (Value.ref h'.objs.size) [] (backTo p3 (starEach (e :: es) X.env)) []) _ _ _
  refine callWith_mw1 (x := a) (thn (ha.run p3 _ _ σ H _ I3 hq) fun us s1 ⟨vs, H1, I4, r, hl, e4, q⟩ => ?_) he hpl
  have hu := (I4.pin _ (List.mem_append_right _ (List.mem_singleton.mpr rfl))).1
  refine ⟨hu, mw_ok T I4 e4 hu (by rw [← Paired.length r, sizeLine_eq]; omega) fun s' J => hR s' H1 ?_ q⟩
  exact J.pins_of fun p hp => by rw [hpins] at hp; cases hp
/-- THE RULE -/
theorem fn_super {name : Str} {params : Arguments} {body : List Stmt} {scope : Scope} {qual : Str} {p0 p1 p2 p3 p4 : Pos} {e : Expr} {es : List Expr} {ar : Arg} {pl : Sem Bool} {rest : List Stmt}
    (lk : K.lookup f = some ⟨oc, od, .func (PySem.W.ksFn name qual params body scope .none kV doc pm an (.ref cda) ct cc), osl⟩)
    (M : SupM P K mg D cda cc qual) (S : NScope N ps ["__class__"] scope) (hbody : body = .Expr (.Call (.Attribute (.Call (.Name "super" p0) [] [] p1) "__init__" p2) (e :: es) [] p3) p4 :: rest)
    (hp : (params.posonlyargs ++ params.args).head? = some ar) (hps : ps.head? = some ar.arg) (hks : scope.names.lookup ("super" : Str) = some .globalImplicit)
    (len : ∀ vs H Q E, sp vs H Q E → vs.length = ps.length)
    (hrun : ∀ (A : Around) (outer : List Env) (s : Shared) (H : Hp) (vs : List V) (Q : VK) (E : XK), Room k (A.deeper (envF ⟨name, qual, params, body, scope, [("__class__", cc)], cda⟩ f s.heap.objs.size)) → sp vs H Q E →
      ∃ a C ta tr, vs.head? = some (V.ref a) ∧ SupC K C D ∧ OexC K C ∧ PA (ncx CX P w K mg base N ⟨name, qual, params, body, scope, [("__class__", cc)], cda⟩ f A outer s H E) (e :: es) ta ∧
        PSs (ncx CX P w K mg base N ⟨name, qual, params, body, scope, [("__class__", cc)], cda⟩ f A outer s H E) rest tr ∧ tSup a C ta tr { nx := fun _ H' => Q .non H', rt := Q } (startF N vs [some (.ref D)]) H)
    (hc : ∀ env : Env, eval (.Call (.Attribute (.Call (.Name "super" p0) [] [] p1) "__init__" p2) (e :: es) [] p3) env = (do
      let ov ← attributeBase (.Call (.Name "super" p0) [] [] p1) "__init__" env (eval (.Call (.Name "super" p0) [] [] p1) env)
      standAt p2.atName
      let (f, first) ← holding [ov] (getMethod ov "__init__" pl)
      callWith p3 f first (backTo p3 (starEach (e :: es) env)) []))
    (hs : ∀ env : Env, swapsWith (.Call (.Attribute (.Call (.Name "super" p0) [] [] p1) "__init__" p2) (e :: es) [] p3) none p4.line env = pure false)
    (he : ∀ env : Env, starEach (e :: es) env = (false, eval e env) :: starEach es env) (hpl : ∀ env : Env, (backTo p3 (starEach es env)).any (·.1) = false) :
    FnOk P w K mg base CX (k + 1) f (PySem.W.ksFn name qual params body scope .none kV doc pm an (.ref cda) ct cc) ps sp := by
  refine ⟨len, fun A outer s H args us vs Q E hr e0 hb r hsp => ?_⟩
  have hl := len _ _ _ _ hsp
  have KX : K.In s.heap := e0.mod.kin.keeps fun b o e => (e0.bs b o e).1
  have lim : s.heap.NoLimit := e0.mod.nolimit.keeps fun b o e => (e0.bs b o e).1
  obtain ⟨cl, cld, csl, hcell⟩ := M.cell
  have C0 : CellsAt [("__class__", cc)] ["__class__"] [some (V.ref D)] s.heap H := by
    refine ⟨rfl, fun y c z => ?_, fun x y c z1 z2 => ?_, fun i y z => ?_⟩
    · have hy : c = cc := by
        by_cases hy : y = "__class__"
        · subst hy
          simp [List.lookup] at z
          exact z.symm
        · have : (y == ("__class__" : Str)) = false := by simpa using hy
          simp [List.lookup, this] at z
      subst hy
      exact ⟨(e0.bs _ _ (e0.mod.kin _ _ hcell)).2, _, ⟨_, KX _ _ hcell, rfl⟩⟩
    · have key : ∀ {y : Str} {c : Addr}, List.lookup y [(("__class__" : Str), cc)] = some c → y = "__class__" := fun {y c} z => by
        by_cases hy : y = "__class__"
        · exact hy
        · have : (y == ("__class__" : Str)) = false := by simpa using hy
          simp [List.lookup, this] at z
      rw [key z1, key z2]
    · match i, z with
      | 0, z =>
        have z : (("__class__" : Str)) = y := Option.some.inj z
        subst z
        exact ⟨cc, by simp [List.lookup], fun v hv => by
          have hv : V.ref D = v := Option.some.inj (Option.some.inj hv)
          subst hv
          exact ⟨.ref D, rfl, _, KX _ _ hcell, rfl⟩⟩
      | n + 1, z => simp at z
  let F0 : NF := ⟨name, qual, params, body, scope, [("__class__", cc)], cda⟩
  refine codeAny_call_function hr.depth (KX _ _ lk) rfl S.co S.gen rfl (PySem.W.codeRec_of KX M.code) (hb _ _ _ _ ?_)
  refine wpAny_newFunctionEnv S.nocell (fun ⟨n, _⟩ hy => S.par n (List.of_mem_zip hy).1) (fun h₁ hns hsb => ⟨lim.fresh _ hsb, ?_⟩) S.kind
  show codeAny _ _ (.func body (envF F0 f s.heap.objs.size)) _ _
  refine PySem.ks_codeAny_funcAt ?_
  have kp : ∀ b o, s.heap.get? b = some o → h₁.get? b = some o := fun b o e => hsb.extBut b o (Nat.ne_of_lt (Heap.lt_size e)) (Heap.get?_push_of_some _ e)
  obtain ⟨a, C, ta, tr, hva, hSC, hT, hta, htr, hq⟩ := hrun A outer s H vs Q E (hr.deeper _) hsp
  have I : Inv (ncx CX P w K mg base N F0 f A outer s H E) [] (startF N vs [some (.ref D)]) H { s with heap := h₁, toks := s.toks + (ps.zip us).length } := inv_startN S hr.hd e0 hl r C0 hns kp
  have fin : ∀ {s' : Shared} {σ' : L2.St} {H' : Hp} {v : V} {u : Value}, Inv (ncx CX P w K mg base N F0 f A outer s H E) [] σ' H' s' → L2.RelV v u → Q v H' → CE outer P w H s Q u s' :=
    fun {s' σ' H' v u} J rv q => ⟨v, H', J.os, J.bare, J.base, J.hok, rv, q⟩
  obtain ⟨psr, hpsr⟩ : ∃ l, ps = ar.arg :: l := by
    cases ps with
    | nil => cases hps
    | cons x l => exact ⟨l, by rw [Option.some.inj hps]⟩
  obtain ⟨vsr, hvsr⟩ : ∃ l, vs = V.ref a :: l := by
    cases vs with
    | nil => cases hva
    | cons x l => exact ⟨l, by rw [Option.some.inj hva]⟩
  have hN0 : N[0]? = some ar.arg := by
    have q := S.pre
    rw [hpsr] at q
    have q2 : (N.take ((ar.arg :: psr).length + [("__class__" : Str)].length))[0]? = some ar.arg := by rw [q]; rfl
    rw [List.getElem?_take_of_lt (by simp)] at q2
    exact q2
  have hi : interactive (envF F0 f s.heap.objs.size) = false := by
    unfold interactive
    show _ = false
    simp [envF, F0, S.kind]
  rw [hbody]
  refine PySem.ks_wpAt_execs_cons (PySem.ks_wpAt_Expr_any ?_ hi (hs _))
  refine wpAt_super (X := ncx CX P w K mg base N F0 f A outer s H E) (σ := startF N vs [some (.ref D)]) (H := H) M hSC hT lk hp rfl rfl hks (S.frk _ (by simp)) (by show List.lookup _ [(("__class__" : Str), cc)] = some cc; simp [List.lookup]) (S.par _ (by rw [hpsr]; simp)) hN0
    (by rw [hvsr]; rfl) rfl rfl hta I hq.1 hq.2 (fun s1 H1 J z => ?_) (hc _) (he _) (hpl _)
  show PySem.wpAt _ _ _ (execs rest _) _ _ _
  refine PySem.wpAt_of_wpAny (wpAny_mono (htr.run [] _ _ H1 _ J z) (fun fl s' hs => ?_) fun e s' hs => hs)
  cases fl with
  | ret u =>
    obtain ⟨v, σ', H', J, rv, q⟩ := hs
    exact fin J rv q
  | next =>
    obtain ⟨σ', H', J, q⟩ := hs
    exact fin (v := V.non) (u := Value.none) J rfl q
  | brk =>
    obtain ⟨_, _, _, q⟩ := hs
    exact False.elim q
  | cont =>
    obtain ⟨_, _, _, q⟩ := hs
    exact False.elim q
end
/-! ### words for the laws -/
/-- the j-th statement of a class's body -/
def methS (st : Stmt) (j : Nat) : Stmt := (C8.clsBody st).getD j (.Pass ⟨0, 0, 0, 0⟩)
section
variable {P : Program} {w : World} {K : PySem.W.Frag} {mg : Str → Option Value} {base : Heap}
/-- what __init__ of an own exception is promised: fs: its fields, by its arguments -/
def spInit (C : Addr) (ok : List V → Prop) (fs : List V → List (Str × V)) : Sp := fun vs H Q _ => ∃ (a : Addr) (xs : List V), vs = .ref a :: xs ∧ ok xs ∧ H a = some (exo a C none) ∧
  ∀ (dx : Addr) (H' : Hp), H dx = none → dx ≠ a → (∀ b, b ≠ a → b ≠ dx → H' b = H b) → H' a = some (exo a C (some dx)) → H' dx = some (exd dx (fs xs)) → Q .non H'
/-- a class of own exceptions, called -/
structure MkX (P : Program) (w : World) (K : PySem.W.Frag) (mg : Str → Option Value) (base : Heap) (k : Nat) (x : Str) (C : Addr) (ok : List V → Prop) (fs : List V → List (Str × V)) : Prop where
  ox : OexC K C
  gC : mg x = some (.ref C)
  ini : ∃ (fI : Addr) (fd : FuncData) (ps : List Str), PySem.W.findIn K (.ref C) "__init__" = some (some (.ref fI)) ∧ PySem.W.typeIn K (.ref fI) = some (.type "function") ∧ FnOk P w K mg base CX0 k fI fd ps (spInit C ok fs) ∧ Binds K fd ps []
/-- a def that may let an exception out -/
structure CalX (P : Program) (w : World) (K : PySem.W.Frag) (mg : Str → Option Value) (base : Heap) (k : Nat) (x : Str) (sp : Sp) : Prop where
  ex : ∃ (f : Addr) (fd : FuncData) (ps : List Str), FnOk P w K mg base (L2.CX P w) k f fd ps sp ∧ mg x = some (.ref f) ∧ PySem.W.keepIn K (.ref f) = true ∧ Binds K fd ps []
end
section
variable {X : Cx} {CX : CXT} {k j : Nat} {C : Addr} {x : Str} {ok : List V → Prop} {fs : List V → List (Str × V)} {p pos : Pos} {e : Expr} {es : List Expr} {ta : TA} {E : L2.St → XK} {sp : Sp}
theorem pe_cX (c : CalX X.prog X.w X.K X.mg X.base k x sp) (hr : Room j X.A) (hk : k ≤ j) (hg : Gl X x) (hx : ∀ σ, PassesAt (L2.CX X.prog X.w) X σ (E σ)) (ha : PA X (e :: es) ta)
    (hdb : (x == ("__debug__" : Str)) = false := by decide) (he : starEach (e :: es) X.env = (false, eval e X.env) :: starEach es X.env := by rfl) (hpl : (backTo pos (starEach es X.env)).any (·.1) = false := by rfl) :
    PE X (.Call (.Name x p) (e :: es) [] pos) (tCallS sp E ta) := by
  obtain ⟨f, fd, ps, F, hm, kp, b⟩ := c.ex
  exact pe_callS F (hr.mono hk) hg hm kp b hx ha hdb he hpl
/-- nothing is let out -/
theorem pass0S {X : Cx} : ∀ σ : L2.St, PassesAt (L2.CX X.prog X.w) X σ E0 := fun σ pins H s e s' I c => passL pins σ H s e s' I c
end
section
variable {X : Cx} {k j : Nat} {C : Addr} {x : Str} {ok : List V → Prop} {fs : List V → List (Str × V)} {p pos : Pos} {e : Expr} {es : List Expr} {ta : TA}
theorem pmk_X (c : MkX X.prog X.w X.K X.mg X.base k x C ok fs) (hr : Room j X.A) (hk : k + 1 ≤ j) (hg : Gl X x) (ha : PA X (e :: es) ta)
    (hdb : (x == ("__debug__" : Str)) = false := by decide) (he : starEach (e :: es) X.env = (false, eval e X.env) :: starEach es X.env := by rfl) (hpl : (backTo pos (starEach es X.env)).any (·.1) = false := by rfl) :
    PMk X (.Call (.Name x p) (e :: es) [] pos) (tMkO C (spInit C ok fs) [] ta) := by
  obtain ⟨fI, fd, ps, iC, tI, F, b⟩ := c.ini
  exact pmk_oex c.ox iC tI F (hr.mono hk) b (dvs := []) .nil pass0 hg c.gC ha hdb he hpl
/-- the end of that reading -/
theorem mkx {vs : List V} {H1 : Hp} {Q : XK} {E : XK} (hl : vs.length ≤ 1000) (hok : ok vs) (q : ∀ (d : Addr) (H' : Hp), Same H1 H' → H1 d = none → H' d = some (.xd (fs vs)) → Q (.ref C) (some d) H') :
    vs.length ≤ 1000 ∧ ∀ a, H1 a = none → spInit C ok fs (.ref a :: (vs ++ [])) (upd H1 a (exo a C none))
      (fun v H2 => v = .non ∧ ∃ (d : Addr) (fs : List (Str × V)), H2 a = some (exo a C (some d)) ∧ H2 d = some (exd d fs) ∧ H1 d = none ∧ Q (.ref C) (some d) (upd (del H2 a) d (.xd fs))) E := by
  refine ⟨hl, fun a na => ⟨a, vs, by rw [List.append_nil], hok, upd_same, fun dx H' hd hne hk ha' hdx => ?_⟩⟩
  have hd1 : H1 dx = none := by
    rw [upd_ne hne] at hd
    exact hd
  refine ⟨rfl, dx, fs vs, ha', hdx, hd1, q dx _ (fun y o hy => ?_) hd1 upd_same⟩
  have ya : y ≠ a := fun z => by rw [z, na] at hy; cases hy
  have yd : y ≠ dx := fun z => by rw [z, hd1] at hy; cases hy
  rw [upd_ne yd, del_ne ya, hk y ya yd, upd_ne ya]
  exact hy
end
/-! ### isinstance of a caught exception that has fields -/
theorem kit_ref {K : PySem.W.Frag} {C : Addr} {t : Value} {b : Bool} (hd : PySem.W.hasDictIn K C = true) (ht : PySem.W.typeIn K (.ref C) = some (.type "type")) (hs : PySem.W.subIn K t (.ref C) = some b) (hb : (t == .ref C) = true → b = true) : PySem.W.kitOne K t (.ref C) = some b := by
  unfold PySem.W.kitOne
  by_cases e : (t == Value.ref C) = true
  · rw [if_pos e, hb e]
  · rw [if_neg e]
    obtain ⟨cd, hc, _⟩ := PySem.W.any_some hd
    show (if ((PySem.W.clsIn K C).isSome && PySem.W.typeIn K (.ref C) == some (.type "type")) = true then PySem.W.subIn K t (.ref C) else none) = some b
    have e2 : ((PySem.W.clsIn K C).isSome && PySem.W.typeIn K (.ref C) == some (.type "type")) = true := by rw [hc, ht] <;> rfl
    rw [if_pos e2]
    exact hs
/-- isinstance(e, c), e the exception that the suite holds (at a, its class cls, its dict d) -/
def rIsX (K : PySem.W.Frag) (a : Addr) (cls : Value) (d : Option Addr) : List V → Hp → VK → Prop := fun xs H Q => ∃ (C D dd : Addr) (fs : List (Str × V)) (b : Bool), xs = [.ref a, .ref C] ∧ cls = .ref D ∧ d = some dd ∧ H dd = some (.xd fs) ∧ ExcC K D ∧ PySem.W.kitOne K (.ref D) (.ref C) = some b ∧ Q (.bl b) H
theorem call_isX {X : Cx} {a : Addr} {oe : Obj} {cls : Value} {d : Option Addr} {pn : List (Addr × Obj)} (hz : Zc cls d oe) (hf : ∃ vs, oe.data = .fields vs) : CallR (X.suite a ((a, oe) :: pn)) (.builtin "isinstance") (rIsX X.K a cls d) := by
  intro pins s σ H xs us Q I r h
  obtain ⟨C, D, dd, fs, b, rfl, ec, ed, ea, E, e, q⟩ := h
  subst ec
  subst ed
  obtain ⟨u1, u2, rfl, r1, r2⟩ := vals2 r
  cases (show u1 = Value.ref a from r1)
  cases (show u2 = Value.ref C from r2)
  obtain ⟨ha, _⟩ := I.pin (a, oe) (List.mem_append_left _ List.mem_cons_self)
  obtain ⟨vs, hd⟩ := hf
  have hx : ObjOk X.prog X.w H s.heap dd (.xd fs) := I.hok dd _ ea
  obtain ⟨mA, hns, hr⟩ := hx
  obtain ⟨od, ho, hl⟩ := lookIn_ns hns
  have J : PySem.W.InstAt s.heap a oe D (some od) := ⟨ha, hz.1, by unfold PySem.W.notCls; rw [hd] <;> rfl, by rw [hz.2]; exact ho⟩
  have hcl : (PySem.W.clsIn X.K D).isSome = true := by
    obtain ⟨cd, hc, _⟩ := PySem.W.any_some E.hd
    rw [hc]
    rfl
  exact PySem.W.kia_one (PySem.W.kitx_exc hcl E.hg E.hk E.hs E.ha E.hn E.ht E.hm) I.kIn J e (fun z => nomatch z) fun tk => ⟨.bl b, H, I.kept (t' := tk) fun _ _ z => z, rfl, q⟩
/-! ### what the laws ask of the classes of errors -/
/-- the class x at C, below the class at T -/
structure ErrC (K : PySem.W.Frag) (mg : Str → Option Value) (x : Str) (C T : Addr) : Prop where
  gC : mg x = some (.ref C)
  ox : OexC K C
  ec : ExcC K C
  tell : PySem.W.subIn K (.ref C) (.ref T) = some true
section
variable {K : PySem.W.Frag} {mg : Str → Option Value} {x : Str} {C T : Addr}
theorem ErrC.xf (e : ErrC K mg x C T) : XfC K C := ⟨e.ec.hg, e.ec.hk, e.ec.hs, e.ec.hd⟩
theorem ErrC.exm {y : Str} (e : ErrC K mg x C T) (t : ErrC K mg y T T) : PySem.W.exmOne K (.ref C) (.ref T) = some true := PySem.W.exm_ref t.ec.hs t.ec.hd t.ox.tyC e.tell
theorem ErrC.kit {y : Str} {D : Addr} {b : Bool} (e : ErrC K mg x C T) (d : ErrC K mg y D T) (hs : PySem.W.subIn K (.ref C) (.ref D) = some b) (hb : C = D → b = true) : PySem.W.kitOne K (.ref C) (.ref D) = some b :=
  kit_ref d.ec.hd d.ox.tyC hs fun z => hb (by simpa using z)
end
theorem pe_err {X : Cx} {x : Str} {C T : Addr} {pos : Pos} (e : ErrC X.K X.mg x C T) (hg : Gl X x) (hd : (x == ("__debug__" : Str)) = false := by decide) : PE X (.Name x pos) (tC (.ref C)) := pe_glob hg e.gC rfl hd
end ExS
set_option Elab.async false
set_option linter.all false
set_option maxRecDepth 100000
set_option maxHeartbeats 4000000
/-! texts in rows; tokens: the plain law -/
namespace Tk
open PySem Tw
/-! ### rows, places -/
theorem snocRec {P : List Nat → Prop} (nil : P []) (append_singleton : ∀ l c, P l → P (l ++ [c])) (l : List Nat) : P l := by
  have key : ∀ r : List Nat, P r.reverse := by
    intro r
    induction r with
    | nil => exact nil
    | cons c r ih => rw [List.reverse_cons]; exact append_singleton _ _ ih
  have := key l.reverse
  rwa [List.reverse_reverse] at this
def rows : List Nat → List (List Nat)
  | [] => [[]]
  | c :: r => if c = 10 then [] :: rows r else match rows r with
    | x :: xs => (c :: x) :: xs
    | [] => [[c]]
theorem rows_ne (l : List Nat) : rows l ≠ [] := by
  cases l with
  | nil => simp [rows]
  | cons c r =>
    unfold rows
    split
    · simp
    · split <;> simp
theorem rows_eq {l : List Nat} {c : Nat} (h : c ≠ 10) : ∃ x xs, rows l = x :: xs ∧ rows (c :: l) = (c :: x) :: xs := by
  cases e : rows l with
  | nil => exact absurd e (rows_ne l)
  | cons x xs => exact ⟨x, xs, rfl, by rw [rows, if_neg h, e]⟩
theorem rows_free : ∀ (l : List Nat), ∀ r ∈ rows l, 10 ∉ r
  | [], r, h => by simp [rows] at h; subst h; simp
  | c :: l, r, h => by
    by_cases e : c = 10
    · rw [rows, if_pos e] at h
      rcases List.mem_cons.mp h with h | h
      · subst h; simp
      · exact rows_free l r h
    · obtain ⟨x, xs, e1, e2⟩ := rows_eq (l := l) e
      rw [e2] at h
      have ih := rows_free l
      rw [e1] at ih
      rcases List.mem_cons.mp h with h | h
      · subst h
        intro q
        rcases List.mem_cons.mp q with q | q
        · exact e q.symm
        · exact ih x (by simp) q
      · exact ih r (List.mem_cons_of_mem _ h)
/-- joined by line ends -/
def joined : List (List Nat) → List Nat
  | [] => []
  | [x] => x
  | x :: y :: r => x ++ 10 :: joined (y :: r)
theorem rows_joined : ∀ (L : List (List Nat)), L ≠ [] → (∀ r ∈ L, 10 ∉ r) → rows (joined L) = L
  | [], h, _ => absurd rfl h
  | [x], _, hf => by
    have : ∀ x : List Nat, 10 ∉ x → rows x = [x] := by
      intro x
      induction x with
      | nil => intro _; rfl
      | cons c r ih =>
        intro h
        have hc : c ≠ 10 := fun e => h (by rw [e]; simp)
        rw [rows, if_neg hc, ih fun q => h (List.mem_cons_of_mem _ q)]
    exact this x (hf x (by simp))
  | x :: y :: r, _, hf => by
    have ih := rows_joined (y :: r) (by simp) fun z hz => hf z (List.mem_cons_of_mem _ hz)
    have : ∀ x : List Nat, 10 ∉ x → ∀ t, rows (x ++ 10 :: t) = x :: rows t := by
      intro x
      induction x with
      | nil => intro _ t; rw [List.nil_append, rows, if_pos rfl]
      | cons c q ih =>
        intro h t
        have hc : c ≠ 10 := fun e => h (by rw [e]; simp)
        rw [List.cons_append, rows, if_neg hc, ih (fun z => h (List.mem_cons_of_mem _ z)) t]
    rw [joined, this x (hf x (by simp)), ih]
theorem joined_rows : ∀ (l : List Nat), joined (rows l) = l
  | [] => rfl
  | c :: l => by
    have ih := joined_rows l
    by_cases e : c = 10
    · rw [rows, if_pos e]
      cases h : rows l with
      | nil => exact absurd h (rows_ne l)
      | cons x xs =>
        rw [h] at ih
        rw [joined, ih, e]
        rfl
    · obtain ⟨x, xs, e1, e2⟩ := rows_eq (l := l) e
      rw [e1] at ih
      rw [e2]
      cases xs with
      | nil =>
        rw [joined] at ih ⊢
        rw [ih]
      | cons y r =>
        rw [joined] at ih ⊢
        rw [List.cons_append, ih]
theorem join_S : ∀ (L : List (List Nat)), Str.join (⟨#[10]⟩ : Str) (L.map S) = S (joined L)
  | [] => rfl
  | [x] => rfl
  | x :: y :: r => by
    show S x ++ (⟨#[10]⟩ : Str) ++ Str.join _ ((y :: r).map S) = _
    rw [join_S (y :: r), S_add1, S_add, joined]
    simp
theorem split_rows (l : List Nat) : Txt.split (S l) ⟨#[10]⟩ = (rows l).map S := by
  have hj := StrLaws.join_split (S l) ⟨#[10]⟩
  have hf := StrLaws.split_free (S l) 10
  have hp := PyProof.Rows.split_pos (S l) ⟨#[10]⟩
  generalize Txt.split (S l) ⟨#[10]⟩ = L at hj hf hp
  have e : L = (L.map fun z : Str => z.cps.toList).map S := by
    rw [List.map_map]
    have : (S ∘ fun z : Str => z.cps.toList) = id := by funext z; exact (S_of z).symm
    rw [this, List.map_id]
  rw [e, join_S] at hj
  have h2 := S_inj.mp hj
  have h3 := rows_joined (L.map fun z : Str => z.cps.toList) (by intro q; rw [List.map_eq_nil_iff] at q; subst q; simp at hp) fun r hr => by
    obtain ⟨z, hz, rfl⟩ := List.mem_map.mp hr
    exact hf z hz
  rw [h2] at h3
  rw [h3]
  exact e
/-- how many signs stand behind the last line end -/
def tl (l : List Nat) : Nat := (l.reverse.takeWhile fun c => decide (c ≠ 10)).length
theorem tl_nil : tl [] = 0 := rfl
theorem tl_snoc (l : List Nat) (c : Nat) : tl (l ++ [c]) = if c = 10 then 0 else tl l + 1 := by
  unfold tl
  rw [List.reverse_append]
  show ((c :: l.reverse).takeWhile _).length = _
  rw [List.takeWhile_cons]
  by_cases e : c = 10
  · simp [e]
  · simp [e]
theorem tl_le (l : List Nat) : tl l ≤ l.length := by
  unfold tl
  have := (List.takeWhile_sublist (l := l.reverse) (fun c => decide (c ≠ 10))).length_le
  rwa [List.length_reverse] at this
theorem count_S (l : List Nat) : Txt.count (S l) ⟨#[10]⟩ = (l.count 10 : Nat) := by
  rw [PyProof.Rows.count_cnt, S_cps]
  induction l with
  | nil => rfl
  | cons c r ih =>
    rw [PyProof.Rows.cnt_cons, ih, List.count_cons]
    by_cases e : c = 10 <;> simp [e] <;> omega
theorem tl_at {l : List Nat} : ∀ {i : Nat}, l[i]? = some 10 → (∀ k, i < k → l[k]? ≠ some 10) → tl l + i + 1 = l.length := by
  induction l using snocRec with
  | nil => intro i h _; simp at h
  | append_singleton l c ih =>
    intro i h hn
    rw [tl_snoc, List.length_append]
    by_cases e : c = 10
    · rw [if_pos e]
      have hi : i = l.length := by
        have h1 := (List.getElem?_eq_some_iff.mp h).1
        rw [List.length_append] at h1
        by_cases z : i < l.length
        · exact absurd (by rw [e]; simp) (hn l.length z)
        · simp at h1; omega
      simp; omega
    · rw [if_neg e]
      have hi : i < l.length := by
        have h1 := (List.getElem?_eq_some_iff.mp h).1
        rw [List.length_append] at h1
        by_cases z : i < l.length
        · exact z
        · have : i = l.length := by simp at h1; omega
          subst this
          simp at h
          exact absurd h e
      rw [List.getElem?_append_left hi] at h
      have := ih h fun k hk q => hn k hk (by rw [List.getElem?_append_left (List.getElem?_eq_some_iff.mp q).1]; exact q)
      simp; omega
theorem tl_none {l : List Nat} (h : 10 ∉ l) : tl l = l.length := by
  induction l using snocRec with
  | nil => rfl
  | append_singleton l c ih =>
    rw [tl_snoc, if_neg (fun e => h (by rw [e]; simp)), ih (fun q => h (List.mem_append_left _ q)), List.length_append]
    rfl
theorem rfind_S (l : List Nat) : Txt.rfind (S l) ⟨#[10]⟩ = (l.length : Int) - tl l - 1 := by
  unfold Txt.rfind
  have key : ∀ i, StrLaws.At (S l) ⟨#[10]⟩ (S l).length i ↔ l[i]? = some 10 := fun i => StrLaws.subAt_one (S l) 10 i
  rcases StrLaws.last_spec (S l) ⟨#[10]⟩ with ⟨e, h⟩ | ⟨i, e, h1, h2⟩
  · rw [e]
    have : tl l = l.length := tl_none fun q => by
      obtain ⟨i, hi⟩ := List.mem_iff_getElem?.mp q
      exact h i ((key i).mpr hi)
    show (-1 : Int) = _
    omega
  · rw [e]
    have := tl_at ((key i).mp h1) fun k hk q => h2 k hk ((key k).mpr q)
    show (i : Int) = _
    omega
theorem rows_len (l : List Nat) : (rows l).length = l.count 10 + 1 := by
  induction l with
  | nil => rfl
  | cons c r ih =>
    by_cases e : c = 10
    · rw [rows, if_pos e, List.length_cons, ih, e, List.count_cons_self]
    · obtain ⟨x, xs, e1, e2⟩ := rows_eq (l := r) e
      rw [e2]
      rw [e1] at ih
      rw [List.count_cons_of_ne e]
      exact ih
theorem rows_last (l : List Nat) : ∃ r, (rows l).getLast? = some r ∧ r.length = tl l := by
    induction l using snocRec with
    | nil => exact ⟨[], rfl, rfl⟩
    | append_singleton l c ih =>
      obtain ⟨r, h1, h2⟩ := ih
      have key : ∀ l : List Nat, rows (l ++ [c]) = if c = 10 then rows l ++ [[]] else (rows l).dropLast ++ [((rows l).getLast?.getD []) ++ [c]] := by
        intro l
        induction l with
        | nil =>
          by_cases e : c = 10
          · simp [rows, e]
          · simp [rows, e]
        | cons d l ih2 =>
          rw [List.cons_append, rows, ih2]
          by_cases e : d = 10
          · rw [if_pos e, rows, if_pos e]
            by_cases z : c = 10
            · rw [if_pos z, if_pos z]; rfl
            · rw [if_neg z, if_neg z]
              cases h : rows l with
              | nil => exact absurd h (rows_ne l)
              | cons x xs => simp
          · rw [if_neg e]
            obtain ⟨x, xs, e1, e2⟩ := rows_eq (l := l) e
            rw [e2, e1]
            by_cases z : c = 10
            · rw [if_pos z, if_pos z]; rfl
            · rw [if_neg z, if_neg z]
              cases xs with
              | nil => simp
              | cons y ys => simp
      rw [key, tl_snoc]
      by_cases e : c = 10
      · rw [if_pos e, if_pos e]
        exact ⟨[], by simp, rfl⟩
      · rw [if_neg e, if_neg e, h1]
        exact ⟨r ++ [c], by simp, by rw [List.length_append, h2]; rfl⟩
/-! ### scanning -/
abbrev LET : List Nat := [97, 98, 99, 100, 101, 102, 103, 104, 105, 106, 107, 108, 109, 110, 111, 112, 113, 114, 115, 116, 117, 118, 119, 120, 121, 122]
abbrev SGN : List Nat := [46, 63, 44]
/-- word, line, column -/
abbrev T3 := List Nat × Nat × Nat
structure Sc where
  done : List T3
  cur : List Nat
  ln : Nat
  co : Nat
def Sc.flush (s : Sc) : List T3 := if s.cur = [] then s.done else s.done ++ [(s.cur, s.ln, s.co - s.cur.length)]
def step (s : Sc) (c : Nat) : Sc :=
  if c ∈ LET then ⟨s.done, s.cur ++ [c], s.ln, s.co + 1⟩
  else if c = 10 then ⟨s.flush, [], s.ln + 1, 1⟩
  else if c ∈ SGN then ⟨s.flush ++ [([c], s.ln, s.co)], [], s.ln, s.co + 1⟩
  else ⟨s.flush, [], s.ln, s.co + 1⟩
/-- a row that begins at line n -/
def row (n : Nat) (l : List Nat) : Sc := l.foldl step ⟨[], [], n, 1⟩
def Good (c : Nat) : Prop := c ∈ LET ∨ c ∈ SGN ∨ c = 32 ∨ c = 10
instance : DecidablePred Good := fun c => by unfold Good; infer_instance
theorem row_snoc (n : Nat) (l : List Nat) (c : Nat) : row n (l ++ [c]) = step (row n l) c := by
  unfold row
  rw [List.foldl_append]
  rfl
theorem step_ln (s : Sc) (c : Nat) : (step s c).ln = s.ln + if c = 10 then 1 else 0 := by
  unfold step
  by_cases h1 : c ∈ LET
  · rw [if_pos h1, if_neg (by rintro rfl; exact absurd h1 (by decide))]
    rfl
  · rw [if_neg h1]
    by_cases h2 : c = 10
    · rw [if_pos h2, if_pos h2]
    · rw [if_neg h2, if_neg h2]
      split <;> rfl
theorem step_co (s : Sc) (c : Nat) : (step s c).co = if c = 10 then 1 else s.co + 1 := by
  unfold step
  by_cases h1 : c ∈ LET
  · rw [if_pos h1, if_neg (by rintro rfl; exact absurd h1 (by decide))]
  · rw [if_neg h1]
    by_cases h2 : c = 10
    · rw [if_pos h2, if_pos h2]
    · rw [if_neg h2, if_neg h2]
      split <;> rfl
theorem step10 (s : Sc) : step s 10 = ⟨s.flush, [], s.ln + 1, 1⟩ := by
  unfold step
  rw [if_neg (by decide), if_pos rfl]
theorem row_ln (n : Nat) (l : List Nat) : (row n l).ln = n + l.count 10 := by
  induction l using snocRec with
  | nil => rfl
  | append_singleton l c ih =>
    rw [row_snoc, step_ln, ih, List.count_append]
    by_cases e : c = 10 <;> simp [e] <;> omega
theorem row_co (n : Nat) (l : List Nat) : (row n l).co = tl l + 1 := by
  induction l using snocRec with
  | nil => rfl
  | append_singleton l c ih =>
    rw [row_snoc, step_co, ih, tl_snoc]
    by_cases e : c = 10 <;> simp [e]
/-- letters only -/
theorem fold_let : ∀ (w : List Nat) (s : Sc), (∀ c ∈ w, c ∈ LET) → w.foldl step s = ⟨s.done, s.cur ++ w, s.ln, s.co + w.length⟩
  | [], s, _ => by simp
  | c :: w, s, h => by
    rw [List.foldl_cons, fold_let w _ fun x hx => h x (List.mem_cons_of_mem _ hx)]
    have hc := h c (by simp)
    unfold step
    rw [if_pos hc]
    simp
    omega
theorem row_app (n : Nat) (l w : List Nat) : row n (l ++ w) = w.foldl step (row n l) := by
  unfold row
  rw [List.foldl_append]
theorem flush_app (d e : List T3) (cur : List Nat) (n k : Nat) : Sc.flush ⟨d ++ e, cur, n, k⟩ = d ++ Sc.flush ⟨e, cur, n, k⟩ := by
  unfold Sc.flush
  dsimp only
  split
  · rfl
  · rw [List.append_assoc]
/-- what is done stands ahead -/
theorem fold_pre (d : List T3) : ∀ (l : List Nat) (e : List T3) (cur : List Nat) (n k : Nat), l.foldl step ⟨d ++ e, cur, n, k⟩ = ⟨d ++ (l.foldl step ⟨e, cur, n, k⟩).done, (l.foldl step ⟨e, cur, n, k⟩).cur, (l.foldl step ⟨e, cur, n, k⟩).ln, (l.foldl step ⟨e, cur, n, k⟩).co⟩
  | [], e, cur, n, k => rfl
  | c :: l, e, cur, n, k => by
    rw [List.foldl_cons, List.foldl_cons]
    have : ∃ e' cur' n' k', step ⟨e, cur, n, k⟩ c = ⟨e', cur', n', k'⟩ ∧ step ⟨d ++ e, cur, n, k⟩ c = ⟨d ++ e', cur', n', k'⟩ := by
      unfold step
      split
      · exact ⟨_, _, _, _, rfl, rfl⟩
      · split
        · exact ⟨_, _, _, _, rfl, by rw [flush_app]⟩
        · split
          · exact ⟨_, _, _, _, rfl, by rw [flush_app, List.append_assoc]⟩
          · exact ⟨_, _, _, _, rfl, by rw [flush_app]⟩
    obtain ⟨e', cur', n', k', e1, e2⟩ := this
    rw [e1, e2]
    exact fold_pre d l e' cur' n' k'
/-- the tokens of rows, from line n on -/
def rowsToks : Nat → List (List Nat) → List T3
  | _, [] => []
  | n, r :: L => (row n r).flush ++ rowsToks (n + 1) L
theorem rowsToks_snoc (L : List (List Nat)) (r : List Nat) : ∀ n, rowsToks n (L ++ [r]) = rowsToks n L ++ (row (n + L.length) r).flush := by
  induction L with
  | nil => intro n; simp [rowsToks]
  | cons x L ih =>
    intro n
    rw [List.cons_append, rowsToks, ih, rowsToks, List.length_cons, List.append_assoc]
    congr 4
    omega
theorem toks_joined : ∀ (L : List (List Nat)) (d : List T3) (n : Nat), L ≠ [] → (∀ r ∈ L, 10 ∉ r) → ((joined L).foldl step ⟨d, [], n, 1⟩).flush = d ++ rowsToks n L
  | [], _, _, h, _ => absurd rfl h
  | [r], d, n, _, _ => by
    have := fold_pre d r [] [] n 1
    rw [List.append_nil] at this
    rw [joined, this, rowsToks, rowsToks, List.append_nil]
    exact flush_app _ _ _ _ _
  | r :: y :: L, d, n, _, hf => by
    have h1 := fold_pre d r [] [] n 1
    rw [List.append_nil] at h1
    have hl : (r.foldl step ⟨[], [], n, 1⟩).ln = n := by
      have := row_ln n r
      have h0 : r.count 10 = 0 := List.count_eq_zero.mpr (hf r (by simp))
      rw [h0] at this
      exact this
    rw [joined, List.foldl_append, List.foldl_cons, h1]
    have e : step ⟨d ++ (r.foldl step ⟨[], [], n, 1⟩).done, (r.foldl step ⟨[], [], n, 1⟩).cur, (r.foldl step ⟨[], [], n, 1⟩).ln, (r.foldl step ⟨[], [], n, 1⟩).co⟩ 10 = ⟨d ++ (row n r).flush, [], n + 1, 1⟩ := by
      rw [step10, flush_app]
      show (⟨d ++ (row n r).flush, [], (r.foldl step ⟨[], [], n, 1⟩).ln + 1, 1⟩ : Sc) = _
      rw [hl]
    rw [e, toks_joined (y :: L) _ (n + 1) (by simp) fun z hz => hf z (List.mem_cons_of_mem _ hz), List.append_assoc]
    rfl
/-- the tokens of a text -/
def toks (l : List Nat) : List T3 := (row 1 l).flush
theorem toks_rows (l : List Nat) : toks l = rowsToks 1 (rows l) := by
  have := toks_joined (rows l) [] 1 (rows_ne l) (rows_free l)
  rw [joined_rows] at this
  exact this
/-! ### how many letters lead -/
def lead (l : List Nat) : Nat := (l.takeWhile fun c => decide (c ∈ LET)).length
theorem lead_cons (c : Nat) (l : List Nat) : lead (c :: l) = if c ∈ LET then lead l + 1 else 0 := by
  unfold lead
  rw [List.takeWhile_cons]
  by_cases h : c ∈ LET
  · rw [if_pos h, if_pos (decide_eq_true h)]
    rfl
  · rw [if_neg h, if_neg (by rw [decide_eq_false h]; exact Bool.false_ne_true)]
    rfl
theorem lead_le : ∀ l, lead l ≤ l.length
  | [] => Nat.le_refl _
  | c :: l => by
    rw [lead_cons, List.length_cons]
    have := lead_le l
    split <;> omega
theorem lead_more : ∀ (l : List Nat) (j c : Nat), j ≤ lead l → l[j]? = some c → c ∈ LET → j + 1 ≤ lead l
  | [], _, _, _, h, _ => by simp at h
  | d :: l, 0, c, _, h, hc => by
    have : d = c := by simpa using h
    rw [lead_cons, this, if_pos hc]
    omega
  | d :: l, j + 1, c, hj, h, hc => by
    rw [lead_cons] at hj ⊢
    by_cases hd : d ∈ LET
    · rw [if_pos hd] at hj ⊢
      have := lead_more l j c (by omega) (by simpa using h) hc
      omega
    · rw [if_neg hd] at hj
      omega
theorem lead_stop : ∀ (l : List Nat) (j : Nat), j ≤ lead l → (∀ c, l[j]? = some c → c ∉ LET) → j = lead l
  | [], j, h, _ => by unfold lead at *; simp at h; simp [h]
  | d :: l, 0, _, h => by
    rw [lead_cons, if_neg (h d (by simp))]
  | d :: l, j + 1, hj, h => by
    rw [lead_cons] at hj ⊢
    by_cases hd : d ∈ LET
    · rw [if_pos hd] at hj ⊢
      have := lead_stop l j (by omega) fun c q => h c (by simpa using q)
      omega
    · rw [if_neg hd] at hj
      omega
theorem lead_let : ∀ (l : List Nat), ∀ c ∈ l.take (lead l), c ∈ LET
  | [], c, h => by simp at h
  | d :: l, c, h => by
    rw [lead_cons] at h
    by_cases hd : d ∈ LET
    · rw [if_pos hd, List.take_succ_cons] at h
      rcases List.mem_cons.mp h with z | z
      · rw [z]; exact hd
      · exact lead_let l c z
    · rw [if_neg hd] at h
      simp at h
theorem lead_next : ∀ (l : List Nat) (c : Nat), l[lead l]? = some c → c ∉ LET
  | [], c, h => by simp at h
  | d :: l, c, h => by
    rw [lead_cons] at h
    by_cases hd : d ∈ LET
    · rw [if_pos hd] at h
      exact lead_next l c (by simpa using h)
    · rw [if_neg hd] at h
      have : d = c := by simpa using h
      rw [← this]
      exact hd
/-! ### the steps of tokens_of_line -/
theorem no10 {r : List Nat} (h : 10 ∉ r) (k : Nat) : 10 ∉ r.take k := fun q => h (List.mem_of_mem_take q)
theorem row_at {n k : Nat} {r : List Nat} (h : 10 ∉ r) (hk : k ≤ r.length) : (row n (r.take k)).ln = n ∧ (row n (r.take k)).co = k + 1 := by
  refine ⟨?_, ?_⟩
  · rw [row_ln, List.count_eq_zero.mpr (no10 h k)]
    rfl
  · rw [row_co, tl_none (no10 h k), List.length_take, Nat.min_eq_left hk]
/-- a run of letters -/
theorem step_run {n k : Nat} {r : List Nat} (h : 10 ∉ r) (hk : k ≤ r.length) (hl : 0 < lead (r.drop k)) (hb : (row n (r.take k)).cur = [] ∨ ∀ c, r[k]? = some c → c ∉ LET) :
    (row n (r.take (k + lead (r.drop k)))).flush = (row n (r.take k)).flush ++ [((r.drop k).take (lead (r.drop k)), n, k + 1)] := by
  have hc : (row n (r.take k)).cur = [] := by
    rcases hb with h | h
    · exact h
    · exfalso
      have h1 : lead (r.drop k) ≤ (r.drop k).length := lead_le _
      have h2 : (r.drop k)[0]? = some (r.drop k)[0] := List.getElem?_eq_getElem (by omega)
      have h3 := lead_let (r.drop k) _ (List.mem_of_getElem? (i := 0) (by rw [List.getElem?_take_of_lt hl]; exact h2))
      refine h _ ?_ h3
      rw [List.getElem?_drop] at h2
      simpa using h2
  have hw : (r.drop k).take (lead (r.drop k)) ≠ [] := by
    intro z
    have := congrArg List.length z
    rw [List.length_take] at this
    have h1 : lead (r.drop k) ≤ (r.drop k).length := lead_le _
    simp at this
    simp at h1
    omega
  obtain ⟨e1, e2⟩ := row_at (n := n) h hk
  rw [List.take_add, row_app, fold_let _ _ (lead_let _), hc]
  unfold Sc.flush
  rw [hc, if_pos rfl]
  simp only [List.nil_append]
  rw [if_neg hw, e1, e2, Nat.add_sub_cancel]
/-- one sign, or a space -/
theorem step_one {n k c : Nat} {r : List Nat} (h : 10 ∉ r) (hc : r[k]? = some c) (hL : c ∉ LET) :
    (row n (r.take (k + 1))).flush = (row n (r.take k)).flush ++ (if c ∈ SGN then [([c], n, k + 1)] else []) ∧ (row n (r.take (k + 1))).cur = [] := by
  have hk : k ≤ r.length := Nat.le_of_lt (List.getElem?_eq_some_iff.mp hc).1
  obtain ⟨e1, e2⟩ := row_at (n := n) h hk
  have c10 : c ≠ 10 := fun z => h (by rw [← z]; exact List.mem_of_getElem? hc)
  rw [List.take_add_one, hc]
  show (row n (r.take k ++ [c])).flush = _ ∧ (row n (r.take k ++ [c])).cur = _
  rw [row_snoc]
  have key : step (row n (r.take k)) c = if c ∈ SGN then ⟨(row n (r.take k)).flush ++ [([c], n, k + 1)], [], n, k + 2⟩ else ⟨(row n (r.take k)).flush, [], n, k + 2⟩ := by
    show (if c ∈ LET then _ else if c = 10 then _ else if c ∈ SGN then _ else _) = _
    rw [if_neg hL, if_neg c10, e1, e2]
  rw [key]
  by_cases z : c ∈ SGN
  · rw [if_pos z, if_pos z]
    exact ⟨rfl, rfl⟩
  · rw [if_neg z, if_neg z, List.append_nil]
    exact ⟨rfl, rfl⟩
/-! ### where a row stands in its text -/
def ahead (L : List (List Nat)) : List Nat := (L.map (· ++ [10])).flatten
theorem joined_at : ∀ (L : List (List Nat)) (i : Nat), i < L.length → joined L = ahead (L.take i) ++ joined (L.drop i)
  | [], i, h => by simp at h
  | x :: L, 0, _ => rfl
  | [x], i + 1, h => by simp at h
  | x :: y :: L, i + 1, h => by
    have ih := joined_at (y :: L) i (by simpa using h)
    rw [joined, ih]
    simp [ahead]
theorem ahead_count : ∀ (L : List (List Nat)), (∀ r ∈ L, 10 ∉ r) → (ahead L).count 10 = L.length
  | [], _ => rfl
  | x :: L, h => by
    have ih := ahead_count L fun r hr => h r (List.mem_cons_of_mem _ hr)
    have h0 : x.count 10 = 0 := List.count_eq_zero.mpr (h x (by simp))
    show ((x ++ [10]) ++ ahead L).count 10 = _
    rw [List.count_append, List.count_append, ih, h0, List.length_cons]
    simp
    omega
theorem tl_end {q x : List Nat} (h : 10 ∉ x) : tl (q ++ 10 :: x) = x.length := by
  have := tl_at (l := q ++ 10 :: x) (i := q.length) (by simp) fun k hk e => by
    rw [List.getElem?_append_right (by omega)] at e
    obtain ⟨j, hj⟩ : ∃ j, k - q.length = j + 1 := ⟨k - q.length - 1, by omega⟩
    rw [hj] at e
    exact h (List.mem_of_getElem? (by simpa using e))
  rw [List.length_append, List.length_cons] at this
  omega
theorem ahead_tl : ∀ (L : List (List Nat)) (x : List Nat), 10 ∉ x → tl (ahead L ++ x) = x.length
  | [], x, h => tl_none h
  | y :: L, x, h => by
    have key : ∀ (M : List (List Nat)) (y : List Nat), ∃ q, ahead (y :: M) = q ++ [10] := by
      intro M
      induction M with
      | nil => intro y; exact ⟨y, by simp [ahead]⟩
      | cons z M ih =>
        intro y
        obtain ⟨q, hq⟩ := ih z
        refine ⟨y ++ [10] ++ q, ?_⟩
        show (y ++ [10]) ++ ahead (z :: M) = _
        rw [hq, List.append_assoc, List.append_assoc]
        simp
    obtain ⟨q, hq⟩ := key L y
    rw [hq, List.append_assoc]
    exact tl_end h
theorem mem_ahead {L : List (List Nat)} {c : Nat} (h : c ∈ ahead L) : c = 10 ∨ ∃ r ∈ L, c ∈ r := by
  unfold ahead at h
  obtain ⟨y, hy, hc⟩ := List.mem_flatten.mp h
  obtain ⟨r, hr, rfl⟩ := List.mem_map.mp hy
  rcases List.mem_append.mp hc with z | z
  · exact .inr ⟨r, hr, z⟩
  · exact .inl (List.mem_singleton.mp z)
theorem take_mid (A t : List Nat) {r : List Nat} {j : Nat} (hj : j ≤ r.length) : (A ++ (r ++ t)).take (A.length + j) = A ++ r.take j := by
  rw [List.take_append, List.take_of_length_le (by omega), Nat.add_sub_cancel_left, List.take_append_of_le_length hj]
theorem get_mid (A t : List Nat) {r : List Nat} {j : Nat} (hj : j < r.length) : (A ++ (r ++ t))[A.length + j]? = r[j]? := by
  rw [List.getElem?_append_right (by omega), Nat.add_sub_cancel_left, List.getElem?_append_left hj]
/-- a sign of a row, in the text -/
theorem row_place {l r : List Nat} {i j c : Nat} (hr : (rows l)[i]? = some r) (hc : r[j]? = some c) :
    ∃ k, l[k]? = some c ∧ l.take k = ahead ((rows l).take i) ++ r.take j ∧ (l.take k).count 10 = i ∧ tl (l.take k) = j := by
  have hi := (List.getElem?_eq_some_iff.mp hr).1
  have hj := (List.getElem?_eq_some_iff.mp hc).1
  have e1 := joined_at (rows l) i hi
  rw [joined_rows] at e1
  have e2 : ∃ t, joined ((rows l).drop i) = r ++ t := by
    rw [List.drop_eq_getElem_cons hi]
    have : (rows l)[i] = r := by
      rw [List.getElem?_eq_getElem hi] at hr
      exact Option.some.inj hr
    rw [this]
    cases (rows l).drop (i + 1) with
    | nil => exact ⟨[], by rw [joined, List.append_nil]⟩
    | cons y L => exact ⟨_, rfl⟩
  obtain ⟨t, e2⟩ := e2
  rw [e2] at e1
  have fr := rows_free l
  have h10 : 10 ∉ r := fr r (List.mem_of_getElem? hr)
  have e3 : l.take ((ahead ((rows l).take i)).length + j) = ahead ((rows l).take i) ++ r.take j := by
    have := take_mid (ahead ((rows l).take i)) t (Nat.le_of_lt hj)
    rwa [← e1] at this
  refine ⟨(ahead ((rows l).take i)).length + j, ?_, e3, ?_, ?_⟩
  · have := get_mid (ahead ((rows l).take i)) t hj
    rw [← e1] at this
    rw [this]
    exact hc
  · rw [e3, List.count_append, ahead_count _ fun r hr => fr r (List.mem_of_mem_take hr), List.count_eq_zero.mpr (no10 h10 j), List.length_take]
    omega
  · rw [e3, ahead_tl _ _ (no10 h10 j), List.length_take]
    omega
theorem mem_rows {l : List Nat} : ∀ {r : List Nat} {c : Nat}, r ∈ rows l → c ∈ r → c ∈ l := by
  induction l with
  | nil => intro r c h; simp [rows] at h; subst h; simp
  | cons d l ih =>
    intro r c hr hc
    by_cases e : d = 10
    · rw [rows, if_pos e] at hr
      rcases List.mem_cons.mp hr with z | z
      · subst z; simp at hc
      · exact List.mem_cons_of_mem _ (ih z hc)
    · obtain ⟨x, xs, e1, e2⟩ := rows_eq (l := l) e
      rw [e2] at hr
      rcases List.mem_cons.mp hr with z | z
      · subst z
        rcases List.mem_cons.mp hc with y | y
        · rw [y]; simp
        · exact List.mem_cons_of_mem _ (ih (by rw [e1]; simp) y)
      · exact List.mem_cons_of_mem _ (ih (by rw [e1]; exact List.mem_cons_of_mem _ z) hc)
theorem good_all {l : List Nat} (h : ∀ r ∈ rows l, ∀ c ∈ r, Good c) : ∀ c ∈ l, Good c := by
  intro c hc
  have e := joined_rows l
  have key : ∀ (L : List (List Nat)), (∀ r ∈ L, ∀ c ∈ r, Good c) → ∀ c ∈ joined L, Good c := by
    intro L
    induction L with
    | nil => intro _ c hc; simp [joined] at hc
    | cons x L ih =>
      intro hL c hc
      cases L with
      | nil => exact hL x (by simp) c hc
      | cons y L =>
        rw [joined] at hc
        rcases List.mem_append.mp hc with z | z
        · exact hL x (by simp) c z
        · rcases List.mem_cons.mp z with z | z
          · exact .inr (.inr (.inr z))
          · exact ih (fun r hr => hL r (List.mem_cons_of_mem _ hr)) c z
  rw [← e] at hc
  exact key _ h c hc
theorem rows_short (l : List Nat) : ∀ r ∈ rows l, r.length ≤ l.length := by
  induction l with
  | nil => intro r h; simp [rows] at h; subst h; simp
  | cons d l ih =>
    intro r hr
    rw [List.length_cons]
    by_cases e : d = 10
    · rw [rows, if_pos e] at hr
      rcases List.mem_cons.mp hr with z | z
      · subst z; simp
      · have := ih r z; omega
    · obtain ⟨x, xs, e1, e2⟩ := rows_eq (l := l) e
      rw [e2] at hr
      rcases List.mem_cons.mp hr with z | z
      · subst z
        have := ih x (by rw [e1]; simp)
        rw [List.length_cons]; omega
      · have := ih r (by rw [e1]; exact List.mem_cons_of_mem _ z); omega
/-! ### how many tokens -/
theorem flush_step (s : Sc) (c : Nat) : (step s c).flush.length ≤ s.flush.length + 1 := by
  have key : s.done.length ≤ s.flush.length ∧ (s.cur ≠ [] → s.flush.length = s.done.length + 1) := by
    unfold Sc.flush
    by_cases h : s.cur = []
    · rw [if_pos h]
      exact ⟨Nat.le_refl _, fun z => absurd h z⟩
    · rw [if_neg h, List.length_append]
      exact ⟨by simp, fun _ => rfl⟩
  have f0 : ∀ (d : List T3) (n k : Nat), Sc.flush ⟨d, [], n, k⟩ = d := fun d n k => by unfold Sc.flush; rw [if_pos rfl]
  show (Sc.flush (if c ∈ LET then _ else if c = 10 then _ else if c ∈ SGN then _ else _)).length ≤ _
  split
  · unfold Sc.flush
    dsimp only
    rw [if_neg (by simp), List.length_append]
    have := key.1
    simp
    by_cases h : s.cur = []
    · rw [if_pos h]; exact Nat.le_refl _
    · rw [if_neg h, List.length_append]; simp
  · split
    · rw [f0]; omega
    · split
      · rw [f0, List.length_append]; simp
      · rw [f0]; omega
theorem flush_len (n : Nat) (l : List Nat) : (row n l).flush.length ≤ l.length := by
  induction l using snocRec with
  | nil => exact Nat.le_refl _
  | append_singleton l c ih =>
    rw [row_snoc, List.length_append]
    have := flush_step (row n l) c
    simp
    omega
theorem rowsToks_len : ∀ (L : List (List Nat)) (n : Nat), (rowsToks n L).length ≤ (ahead L).length
  | [], _ => Nat.le_refl _
  | r :: L, n => by
    have h1 := flush_len n r
    have h2 := rowsToks_len L (n + 1)
    rw [rowsToks, List.length_append]
    show _ ≤ ((r ++ [10]) ++ ahead L).length
    rw [List.length_append, List.length_append]
    omega
theorem ahead_row {l r : List Nat} {i : Nat} (hr : (rows l)[i]? = some r) : (ahead ((rows l).take i)).length + r.length ≤ l.length := by
  have hi := (List.getElem?_eq_some_iff.mp hr).1
  have e1 := joined_at (rows l) i hi
  rw [joined_rows] at e1
  have e2 : r.length ≤ (joined ((rows l).drop i)).length := by
    rw [List.drop_eq_getElem_cons hi]
    have : (rows l)[i] = r := by
      rw [List.getElem?_eq_getElem hi] at hr
      exact Option.some.inj hr
    rw [this]
    cases (rows l).drop (i + 1) with
    | nil => exact Nat.le_refl _
    | cons y L => rw [joined, List.length_append]; omega
  have := congrArg List.length e1
  rw [List.length_append] at this
  omega
/-! ### texts made word by word -/
theorem row0 (n : Nat) : row n [] = ⟨[], [], n, 1⟩ := rfl
theorem gap_row (n : Nat) (l g : List Nat) (hg : ∀ c ∈ g, c = 32 ∨ c = 10) : (row n (l ++ g)).flush = (row n l).flush ∧ (g ≠ [] → (row n (l ++ g)).cur = []) := by
  induction g using snocRec with
  | nil => rw [List.append_nil]; exact ⟨rfl, fun h => absurd rfl h⟩
  | append_singleton g c ih =>
    obtain ⟨h1, _⟩ := ih fun d hd => hg d (List.mem_append_left _ hd)
    have hc := hg c (by simp)
    rw [← List.append_assoc, row_snoc]
    have f0 : ∀ (d : List T3) (n k : Nat), Sc.flush ⟨d, [], n, k⟩ = d := fun d n k => by unfold Sc.flush; rw [if_pos rfl]
    rcases hc with rfl | rfl
    · show (Sc.flush (if (32 : Nat) ∈ LET then _ else if (32 : Nat) = 10 then _ else if (32 : Nat) ∈ SGN then _ else _)) = _ ∧ (_ → Sc.cur (if (32 : Nat) ∈ LET then _ else if (32 : Nat) = 10 then _ else if (32 : Nat) ∈ SGN then _ else _) = _)
      rw [if_neg (by decide), if_neg (by decide), if_neg (by decide), f0]
      exact ⟨h1, fun _ => rfl⟩
    · rw [step10, f0]
      exact ⟨h1, fun _ => rfl⟩
/-- a text and what was told of it; b: a word of letters stands last -/
structure Told (l : List Nat) (ts : List T3) (b : Bool) : Prop where
  good : ∀ c ∈ l, Good c
  toks : toks l = ts
  cur : b = false → (row 1 l).cur = []
theorem Told.gap {l g : List Nat} {ts : List T3} {b : Bool} (h : Told l ts b) (hg : ∀ c ∈ g, c = 32 ∨ c = 10) : (∀ c ∈ l ++ g, Good c) ∧ Tk.toks (l ++ g) = ts ∧ ((g ≠ [] ∨ b = false) → (row 1 (l ++ g)).cur = []) := by
  obtain ⟨h1, h2⟩ := gap_row 1 l g hg
  refine ⟨fun c hc => ?_, h1.trans h.toks, fun z => ?_⟩
  · rcases List.mem_append.mp hc with y | y
    · exact h.good c y
    · exact .inr (.inr (hg c y))
  · by_cases e : g = []
    · rw [e, List.append_nil]
      exact h.cur (z.resolve_left fun q => q e)
    · exact h2 e
theorem Told.first {g : List Nat} (hg : ∀ c ∈ g, c = 32 ∨ c = 10) : Told g [] false := by
  have h := gap_row 1 [] g hg
  rw [List.nil_append] at h
  refine ⟨fun c hc => .inr (.inr (hg c hc)), h.1, fun _ => ?_⟩
  by_cases e : g = []
  · rw [e]; rfl
  · exact h.2 e
/-- one turn: a gap and a word -/
theorem Told.word {l g w : List Nat} {ts : List T3} {b : Bool} (h : Told l ts b) (hg : ∀ c ∈ g, c = 32 ∨ c = 10) (hn : b = true → g ≠ []) (hw : w ≠ []) (hL : ∀ c ∈ w, c ∈ LET) :
    Told (l ++ g ++ w) (ts ++ [(w, 1 + (l ++ g).count 10, tl (l ++ g) + 1)]) true := by
  obtain ⟨h1, h2, h3⟩ := h.gap hg
  have hc := h3 (by cases b with
    | true => exact .inl (hn rfl)
    | false => exact .inr rfl)
  have e1 := row_ln 1 (l ++ g)
  have e2 := row_co 1 (l ++ g)
  refine ⟨fun c hc => ?_, ?_, fun z => by cases z⟩
  · rcases List.mem_append.mp hc with y | y
    · exact h1 c y
    · exact .inl (hL c y)
  · unfold Tk.toks at h2 ⊢
    rw [row_app, fold_let _ _ hL, ← h2, hc, e1, e2]
    unfold Sc.flush
    rw [hc, if_pos rfl]
    simp only [List.nil_append]
    rw [if_neg hw, Nat.add_sub_cancel]
/-- .. a gap and a sign -/
theorem Told.sign {l g : List Nat} {c : Nat} {ts : List T3} {b : Bool} (h : Told l ts b) (hg : ∀ c ∈ g, c = 32 ∨ c = 10) (hS : c ∈ SGN) :
    Told (l ++ g ++ [c]) (ts ++ [([c], 1 + (l ++ g).count 10, tl (l ++ g) + 1)]) false := by
  obtain ⟨h1, h2, h3⟩ := h.gap hg
  have e1 := row_ln 1 (l ++ g)
  have e2 := row_co 1 (l ++ g)
  have hL : c ∉ LET := fun z => by
    have : ∀ c ∈ SGN, c ∉ LET := by decide
    exact this c hS z
  have h10 : c ≠ 10 := by rintro rfl; exact absurd hS (by decide)
  have key : row 1 (l ++ g ++ [c]) = ⟨(row 1 (l ++ g)).flush ++ [([c], (row 1 (l ++ g)).ln, (row 1 (l ++ g)).co)], [], (row 1 (l ++ g)).ln, (row 1 (l ++ g)).co + 1⟩ := by
    rw [row_snoc]
    show (if c ∈ LET then _ else if c = 10 then _ else if c ∈ SGN then _ else _) = _
    rw [if_neg hL, if_neg h10, if_pos hS]
  refine ⟨fun d hd => ?_, ?_, fun _ => by rw [key]⟩
  · rcases List.mem_append.mp hd with y | y
    · exact h1 d y
    · rw [List.mem_singleton.mp y]; exact .inr (.inl hS)
  · unfold Tk.toks at h2 ⊢
    rw [key, e1, e2, h2]
    unfold Sc.flush
    rw [if_pos rfl]
/-- an end -/
theorem Told.fin {l g : List Nat} {ts : List T3} {b : Bool} (h : Told l ts b) (hg : ∀ c ∈ g, c = 32 ∨ c = 10) : (∀ c ∈ l ++ g, Good c) ∧ Tk.toks (l ++ g) = ts := ⟨(h.gap hg).1, (h.gap hg).2.1⟩
/-! ### what tokens are made of; the first sign that is none -/
theorem step_of {s : Sc} {c : Nat} (h : (∀ t ∈ s.done, ∀ d ∈ t.1, d < 200) ∧ ∀ d ∈ s.cur, d < 200) : (∀ t ∈ (step s c).done, ∀ d ∈ t.1, d < 200) ∧ ∀ d ∈ (step s c).cur, d < 200 := by
  have hf : ∀ t ∈ s.flush, ∀ d ∈ t.1, d < 200 := by
    intro t ht d hd
    unfold Sc.flush at ht
    split at ht
    · exact h.1 t ht d hd
    · rcases List.mem_append.mp ht with z | z
      · exact h.1 t z d hd
      · rw [List.mem_singleton.mp z] at hd
        exact h.2 d hd
  show (∀ t ∈ (if c ∈ LET then _ else if c = 10 then _ else if c ∈ SGN then _ else _ : Sc).done, _) ∧ _
  have key : step s c = if c ∈ LET then ⟨s.done, s.cur ++ [c], s.ln, s.co + 1⟩ else if c = 10 then ⟨s.flush, [], s.ln + 1, 1⟩ else if c ∈ SGN then ⟨s.flush ++ [([c], s.ln, s.co)], [], s.ln, s.co + 1⟩ else ⟨s.flush, [], s.ln, s.co + 1⟩ := rfl
  rw [← key, key]
  by_cases h1 : c ∈ LET
  · rw [if_pos h1]
    refine ⟨h.1, fun d hd => ?_⟩
    rcases List.mem_append.mp hd with z | z
    · exact h.2 d z
    · rw [List.mem_singleton.mp z]
      have : ∀ c ∈ LET, c < 200 := by decide
      exact this c h1
  · rw [if_neg h1]
    by_cases h2 : c = 10
    · rw [if_pos h2]
      exact ⟨hf, by simp⟩
    · rw [if_neg h2]
      by_cases h3 : c ∈ SGN
      · rw [if_pos h3]
        refine ⟨fun t ht d hd => ?_, by simp⟩
        rcases List.mem_append.mp ht with z | z
        · exact hf t z d hd
        · rw [List.mem_singleton.mp z] at hd
          rw [List.mem_singleton.mp hd]
          have : ∀ c ∈ SGN, c < 200 := by decide
          exact this c h3
      · rw [if_neg h3]
        exact ⟨hf, by simp⟩
theorem toks_of (l : List Nat) : ∀ t ∈ toks l, ∀ d ∈ t.1, d < 200 := by
  have key : (∀ t ∈ (row 1 l).done, ∀ d ∈ t.1, d < 200) ∧ ∀ d ∈ (row 1 l).cur, d < 200 := by
    induction l using snocRec with
    | nil => exact ⟨by simp [row0], by simp [row0]⟩
    | append_singleton l c ih =>
      rw [row_snoc]
      exact step_of ih
  intro t ht d hd
  unfold toks Sc.flush at ht
  split at ht
  · exact key.1 t ht d hd
  · rcases List.mem_append.mp ht with z | z
    · exact key.1 t z d hd
    · rw [List.mem_singleton.mp z] at hd
      exact key.2 d hd
/-- the place of the first sign that is none -/
def First (l : List Nat) (k : Nat) : Prop := (∃ c, l[k]? = some c ∧ ¬ Good c) ∧ ∀ d ∈ l.take k, Good d
theorem first_uniq {l : List Nat} {j k : Nat} (h1 : First l j) (h2 : First l k) : j = k := by
  have key : ∀ {j k : Nat}, First l j → First l k → ¬ j < k := fun {j k} h1 h2 hlt => by
    obtain ⟨c, hc, hb⟩ := h1.1
    exact hb (h2.2 c (List.mem_of_getElem? (i := j) (by rw [List.getElem?_take_of_lt hlt]; exact hc)))
  have a := key h1 h2
  have b := key h2 h1
  omega
theorem first_put {l : List Nat} {n c : Nat} (hl : ∀ d ∈ l, Good d) (hn : n ≤ l.length) (hc : ¬ Good c) : First (l.take n ++ [c] ++ l.drop n) n := by
  have hln : (l.take n).length = n := by rw [List.length_take]; omega
  refine ⟨⟨c, ?_, hc⟩, fun d hd => ?_⟩
  · rw [List.append_assoc, List.getElem?_append_right (by omega), hln, Nat.sub_self]
    rfl
  · rw [List.append_assoc, List.take_append_of_le_length (by omega), List.take_of_length_le (by omega)] at hd
    exact hl d (List.mem_of_mem_take hd)
end Tk
set_option Elab.async false
set_option linter.all false
set_option maxRecDepth 100000
set_option maxHeartbeats 4000000
/-! what _law_plain makes can be compared -/
namespace Tw
open PySem PySem.Spec
theorem str_lay (x : Str) (h : ∀ c ∈ x.cps.toList, c < 0x110000) : PyData.canLay0 (.str x) = true := by
  show (x.cps.all fun c => decide (c < 0x110000)) = true
  rw [← Array.all_toList, List.all_eq_true]
  exact fun c hc => decide_eq_true (h c hc)
mutual
theorem plain_lay : ∀ d : PyData, d.canLay0 = true → (plainD d).canLay0 = true
  | .none, _ => by rw [plainD]; decide +kernel
  | .bool b, _ => by rw [plainD]; cases b <;> decide +kernel
  | .int i, _ => by rw [plainD]; rfl
  | .str s, h => by
    rw [plainD]
    show (true && (PyData.canLay0 (.str s) && true)) = true
    rw [h]; rfl
  | .list xs, h => by
    rw [plainD]
    show (true && PyData.canLayAll0 (plainAll xs)) = true
    rw [plainAll_lay xs h]; rfl
  | .tuple xs, h => by
    rw [plainD]
    show (true && PyData.canLayAll0 (plainAll xs)) = true
    rw [plainAll_lay xs h]; rfl
  | .dict _, h => by cases h
theorem plainAll_lay : ∀ ds : List PyData, PyData.canLayAll0 ds = true → PyData.canLayAll0 (plainAll ds) = true
  | [], _ => by rw [plainAll]; rfl
  | d :: ds, h => by
    obtain ⟨h1, h2⟩ := Bool.and_eq_true_iff.mp (show (PyData.canLay0 d && PyData.canLayAll0 ds) = true from h)
    rw [plainAll]
    show (PyData.canLay0 (plainD d) && PyData.canLayAll0 (plainAll ds)) = true
    rw [plain_lay d h1, plainAll_lay ds h2]; rfl
end
mutual
theorem plain_depth : ∀ d : PyData, (plainD d).depth ≤ d.depth + 1
  | .none => by rw [plainD]; exact Nat.zero_le _
  | .bool b => by rw [plainD]; exact Nat.zero_le _
  | .int i => by rw [plainD]; exact Nat.le_refl _
  | .str s => by rw [plainD]; exact Nat.le_refl _
  | .list xs => by
    rw [plainD]
    have := plainAll_depth xs
    show max 0 (PyData.depthAll (plainAll xs)) + 1 ≤ PyData.depthAll xs + 1 + 1
    omega
  | .tuple xs => by
    rw [plainD]
    have := plainAll_depth xs
    show max 0 (PyData.depthAll (plainAll xs)) + 1 ≤ PyData.depthAll xs + 1 + 1
    omega
  | .dict _ => by rw [plainD]; exact Nat.zero_le _
theorem plainAll_depth : ∀ ds : List PyData, PyData.depthAll (plainAll ds) ≤ PyData.depthAll ds + 1
  | [] => by rw [plainAll]; exact Nat.zero_le _
  | d :: ds => by
    have h1 := plain_depth d
    have h2 := plainAll_depth ds
    rw [plainAll]
    show max (PyData.depth (plainD d)) (PyData.depthAll (plainAll ds)) ≤ max (PyData.depth d) (PyData.depthAll ds) + 1
    omega
end
theorem plain_shaped {d : PyData} (h : d.canLay0 = true) (hd : d.depth ≤ 60) : SeqAt.shaped (plainD d) = true := by
  have := plain_depth d
  show (PyData.canLay0 (plainD d) && decide ((plainD d).depth ≤ 64)) = true
  rw [plain_lay d h, decide_eq_true (by omega)]
  rfl
theorem layAll {ds : List PyData} (h : ∀ d ∈ ds, d.canLay0 = true) : PyData.canLayAll0 ds = true := by
  induction ds with
  | nil => rfl
  | cons d ds ih =>
    show (PyData.canLay0 d && PyData.canLayAll0 ds) = true
    rw [h d (by simp), ih fun x hx => h x (List.mem_cons_of_mem _ hx)]
    rfl
theorem depthAll_le {ds : List PyData} {n : Nat} (h : ∀ d ∈ ds, d.depth ≤ n) : PyData.depthAll ds ≤ n := by
  induction ds with
  | nil => exact Nat.zero_le _
  | cons d ds ih =>
    have h1 := h d (by simp)
    have h2 := ih fun x hx => h x (List.mem_cons_of_mem _ hx)
    show max (PyData.depth d) (PyData.depthAll ds) ≤ n
    omega
end Tw
set_option Elab.async false
set_option linter.all false
set_option maxRecDepth 100000
set_option maxHeartbeats 4000000
namespace K33
open PySem PySem.Spec PyProof.Rows L2 Tw Tk
def topS (i : Nat) : Stmt := PySem.Challenge.pw_tellwork_k33_whole_tokens_and_places.main.body.getD i (.Pass ⟨0, 0, 0, 0⟩)
structure Tx (mg : Str → Option Value) : Prop where
  n_len : mg "len" = none
  n_range : mg "range" = none
  n_list : mg "list" = none
  n_tuple : mg "tuple" = none
  n_int : mg "int" = none
  n_bool : mg "bool" = none
  n_str : mg "str" = none
  n_enumerate : mg "enumerate" = none
  n_min : mg "min" = none
  n_abs : mg "abs" = none
  n_isinstance : mg "isinstance" = none
  c_LETTERS : ∃ u, mg "LETTERS" = some u ∧ RelV (.str (S LET)) u
  c_SIGNS : ∃ u, mg "SIGNS" = some u ∧ RelV (.str (S SGN)) u
structure Ex (K : PySem.W.Frag) (mg : Str → Option Value) (CT CI CL : Addr) : Prop where
  e_TellError : ExS.ErrC K mg "TellError" CT CT
  e_InvalidText : ExS.ErrC K mg "InvalidText" CI CT
  e_InvalidLexicon : ExS.ErrC K mg "InvalidLexicon" CL CT
  no_InvalidText_line : PySem.W.findIn K (.ref CI) "line" = some none
  no_InvalidText_column : PySem.W.findIn K (.ref CI) "column" = some none
  ii : PySem.W.kitOne K (.ref CI) (.ref CI) = some true
  il : PySem.W.kitOne K (.ref CI) (.ref CL) = some false
section
variable {P : Program} {w : World} {K : PySem.W.Frag} {mg : Str → Option Value} {base : Heap} {CT CI CL : Addr}
/-! ### InvalidText -/
/-- a number with few digits -/
def few (i : Int) : Prop := 0 ≤ i ∧ i ≤ 1000000
theorem few_log {i : Int} (h : few i) : i.natAbs.log2 < 1920 := by
  have h1 : i.natAbs ≤ 1000000 := by have := h.1; have := h.2; omega
  have : i.natAbs.log2 ≤ 20 := by
    by_cases z : i.natAbs = 0
    · rw [z]; decide
    · have := (Nat.log2_lt z (k := 20)).mpr (by omega)
      omega
  omega
theorem few_len {i : Int} (h : few i) : (PySem.Str.ofString (toString i)).length ≤ 10 := PyProof.Rows.toString_length_le h.1 (by decide) (by have := h.2; omega)
def okIT (xs : List V) : Prop := ∃ l c : Int, xs = [.int l, .int c] ∧ few l ∧ few c
def fsIT (xs : List V) : List (Str × V) := match xs with
  | [l, c] => [("column", c), ("line", l)]
  | _ => []
abbrev s_InvalidText___init__ : Stmt := ExS.methS (topS 2) 0
theorem sc_InvalidText___init__ : NdefX.NScope ["self", "line", "column", "__class__"] ["self", "line", "column"] ["__class__"] (defScope s_InvalidText___init__) := NdefX.nscope_by (by decide +kernel)
theorem ok_init {f D cda cc : Addr} {od : Option Addr} {osl : Array (Option Value)} {oc doc pm ct kV : Value} {an : Option Addr} {C : Addr}
    (lk : K.lookup f = some ⟨oc, od, .func (PySem.W.ksFn "__init__" "InvalidText.__init__" (defArgs s_InvalidText___init__) (defBody s_InvalidText___init__) (defScope s_InvalidText___init__) .none kV doc pm an (.ref cda) ct cc), osl⟩)
    (M : ExS.SupM P K mg D cda cc "InvalidText.__init__") (SC_ : ExS.SupC K C D) (OX : OexC K C) (n1 : PySem.W.findIn K (.ref C) "line" = some none) (n2 : PySem.W.findIn K (.ref C) "column" = some none) (T : Tx mg) :
    FnOk P w K mg base CX0 1 f (PySem.W.ksFn "__init__" "InvalidText.__init__" (defArgs s_InvalidText___init__) (defBody s_InvalidText___init__) (defScope s_InvalidText___init__) .none kV doc pm an (.ref cda) ct cc) ["self", "line", "column"] (ExS.spInit C okIT fsIT) := by
  refine ExS.fn_super (N := ["self", "line", "column", "__class__"]) lk M sc_InvalidText___init__ rfl rfl rfl rfl (fun vs H Q E h => ?_) (fun A outer s H vs Q E hr h => ?_) (fun _ => rfl) (fun _ => rfl) (fun _ => rfl) (fun _ => rfl)
  · obtain ⟨a, xs, rfl, ⟨l, c, rfl, _⟩, _⟩ := h
    rfl
  · obtain ⟨a, xs, rfl, ⟨l, c, rfl, fl, fc⟩, ha, q⟩ := h
    refine ⟨a, _, _, _, rfl, SC_, OX, (pa_cons (pe_op op_add_str (pe_op op_add_str (pe_op op_add_str pe_str (pe_callTy call_str_int rfl T.n_str (by decide +kernel) (pa_cons (pv 1) pa_nil))) pe_str) (pe_callTy call_str_int rfl T.n_str (by decide +kernel) (pa_cons (pv 2) pa_nil))) pa_nil), (pss_cons (ps_ost (pv 0) (pv 1))
    (pss_one (ps_ost (pv 0) (pv 2)))), ?_⟩
    have ll := few_len fl
    have lc := few_len fc
    have z1 : (PySem.Str.ofString "line ").length = 5 := by decide
    have z2 : (PySem.Str.ofString ", column ").length = 9 := by decide
    refine ⟨ha, .int l, rfl, l, rfl, few_log fl, _, _, rfl, rfl, szL (by omega), _, _, rfl, rfl, szL (by rw [Str.length_append]; omega), .int c, rfl, c, rfl, few_log fc, _, _, rfl, rfl, szL (by rw [Str.length_append, Str.length_append]; omega), ?_⟩
    refine ⟨by show 1 ≤ 1000; decide, ha, ?_⟩
    refine ⟨.int l, rfl, .ref a, rfl, a, C, rfl, OX, n1, .inl ⟨ha, fun dx nd ne => ?_⟩⟩
    have hdx : upd (upd H dx (exd dx [(("line" : Str), V.int l)])) a (exo a C (some dx)) dx = some (exd dx [(("line" : Str), V.int l)]) := by rw [upd_ne ne, upd_same]
    refine ⟨.int c, rfl, .ref a, rfl, a, C, rfl, OX, n2, .inr ⟨dx, _, upd_same, hdx, by show 1 ≤ 900; decide, ?_⟩⟩
    · refine q dx _ nd ne (fun b n1 n2 => ?_) ?_ upd_same
      · rw [upd_ne n2, upd_ne n1, upd_ne n2]
      · rw [upd_ne (Ne.symm ne), upd_same]
/-! ### run_length, tokens_of_line -/
theorem qint {Q : VK} {i j : Int} {H : Hp} (e : i = j) (q : Q (V.int j) H) : Q (V.int i) H := by rw [e]; exact q
def spRun : Sp := fun vs H Q _ => ∃ (r : List Nat) (k : Nat), vs = [.str (S r), .int (k : Nat)] ∧ k ≤ r.length ∧ r.length ≤ 50000 ∧ Q (.int (lead (r.drop k) : Nat)) H
abbrev s_run_length : Stmt := topS 7
theorem sc_run_length : FnScope ["row", "at", "end"] ["row", "at"] (defScope s_run_length) := ⟨rfl, rfl, rfl, by decide +kernel, rfl, by decide +kernel, by decide +kernel⟩
theorem ok_run {f : Addr} {fd : FuncData} (F : Fun K "run_length" "run_length" s_run_length f fd) (T : Tx mg) : FnOk P w K mg base CX0 1 f fd ["row", "at"] spRun := by
  refine F.ok sc_run_length (fun vs H Q E h => ?_) (fun cdv A outer s H vs Q E hr h => ?_)
  · obtain ⟨r, k, rfl, _⟩ := h
    rfl
  · obtain ⟨r, k, rfl, hk, hl, q⟩ := h
    refine ⟨_, (pss_cons (ps_set (i := 2) sc_run_length.nd rfl (.inl rfl) (pv 1))
    (pss_cons (ps_while PassesOwn.never (PW.pt (pw_and (pt_cmpR op_lt (pv 2) (pe_callB call_len_str rfl T.n_len (by decide +kernel) (pa_cons (pv 0) pa_nil)) (nomark _)) (pw_and1 (pt_cmpR op_in_sign (pe_ix ix_str (pv 0) (pv 2) (fun _ _ => rfl)) (C8.pe_gc rfl T.c_LETTERS) (by rfl)))))
      (pss_one (ps_set (i := 2) sc_run_length.nd rfl (.inl rfl) (pe_op op_add (pv 2) pe_int))))
    (pss_one (ps_ret (pe_op op_sub (pv 2) (pv 1)))))), ?_⟩
    refine ⟨_, rfl, fun m σ' H' => ∃ j : Nat, j ≤ lead (r.drop k) ∧ σ' = [some (.str (S r)), some (.int (k : Nat)), some (.int ((k + j : Nat) : Int))] ∧ H' = H ∧ m = r.length - (k + j), ⟨_, 0, Nat.zero_le _, rfl, rfl, rfl⟩, ?_⟩
    rintro m σ' H' ⟨j, hj, rfl, rfl, rfl⟩
    have hll := lead_le (r.drop k)
    rw [List.length_drop] at hll
    have hg : ∀ c, r[k + j]? = some c → (r.drop k)[j]? = some c := fun c e => by rw [List.getElem?_drop]; exact e
    refine ⟨_, rfl, .str (S r), rfl, S r, rfl, szL (by rw [S_len]; omega), _, _, rfl, rfl, _, rfl, ?_⟩
    rw [S_len]
    by_cases c1 : k + j < r.length
    · have hc := List.getElem?_eq_getElem c1
      rw [decide_eq_true (by omega)]
      refine iteT ⟨.str (S r), rfl, _, rfl, S r, _, _, rfl, rfl, szL (by rw [S_len]; omega), atI_ofNat (by omega) hc, _, _, rfl, rfl, _, rfl, ?_⟩
      rw [S_cps]
      by_cases c2 : r[k + j] ∈ LET
      · rw [decide_eq_true c2]
        refine iteT ⟨fun σ2 H2 => ∃ j' : Nat, j' ≤ lead (r.drop k) ∧ σ2 = [some (.str (S r)), some (.int (k : Nat)), some (.int ((k + j' : Nat) : Int))] ∧ H2 = H' ∧ r.length - (k + j') < r.length - (k + j), fun σ2 H2 ⟨j', a, b, c, d⟩ => ⟨_, d, j', a, b, c, rfl⟩, ?_⟩
        refine ⟨_, rfl, _, _, rfl, rfl, j + 1, lead_more _ _ _ hj (hg _ hc) c2, rfl, rfl, by omega⟩
      · rw [decide_eq_false c2]
        refine iteF ?_
        have e := lead_stop _ _ hj fun c q => by
          rw [List.getElem?_drop, hc] at q
          rw [← Option.some.inj q]
          exact c2
        refine ⟨_, rfl, _, rfl, _, _, rfl, rfl, ?_⟩
        exact qint (by omega) q
    · rw [decide_eq_false (by omega)]
      refine iteF ?_
      have e := lead_stop _ _ hj fun c q => by
        rw [List.getElem?_drop] at q
        exact absurd (List.getElem?_eq_some_iff.mp q).1 (by omega)
      refine ⟨_, rfl, _, rfl, _, _, rfl, rfl, ?_⟩
      exact qint (by omega) q
theorem sgn_inj {c d : Nat} (h : V.str ⟨#[c]⟩ = V.str ⟨#[d]⟩) : c = d := by
  injection h with h
  injection h with h
  have := congrArg Array.toList h
  simpa using this
theorem cut_mid (l : List Nat) (k m : Nat) (h : k + m ≤ l.length) : cutS (S l) (some (k : Int)) (some ((k : Int) + (m : Nat))) = S ((l.drop k).take m) := by
  rw [S_cut, show ((k : Int) + (m : Nat)) = ((k + m : Nat) : Int) by omega, HT.sIx_nat, HT.sIx_nat, Nat.min_eq_left (by omega), Nat.min_eq_left (by omega), Nat.add_sub_cancel_left]
def tokD (t : T3) : PyData := .tuple [.str (S t.1), .int (t.2.1 : Nat), .int (t.2.2 : Nat)]
def spRow (K : PySem.W.Frag) (CI : Addr) : Sp := fun vs H Q E => ∃ (r : List Nat) (n : Nat), vs = [.str (S r), .int (n : Nat)] ∧ 10 ∉ r ∧ r.length ≤ 20000 ∧ n ≤ 100000 ∧
  ((∀ c ∈ r, Good c) → ∀ H' a vs, Same H H' → H a = none → H' a = some (.lst vs) → NewAll K H a H' vs ((row n r).flush.map tokD) → Q (.ref a) H') ∧
  (∀ i c, r[i]? = some c → ¬ Good c → (∀ d ∈ r.take i, Good d) → ∀ d H', Same H H' → H' d = some (.xd [("column", .int ((i + 1 : Nat) : Int)), ("line", .int (n : Nat))]) → E (.ref CI) (some d) H')
abbrev s_tokens_of_line : Stmt := topS 8
theorem sc_tokens_of_line : FnScope ["row", "line", "found", "at", "long"] ["row", "line"] (defScope s_tokens_of_line) := ⟨rfl, rfl, rfl, by decide +kernel, rfl, by decide +kernel, by decide +kernel⟩
theorem ok_row {f : Addr} {fd : FuncData} (F : Fun K "tokens_of_line" "tokens_of_line" s_tokens_of_line f fd) (T : Tx mg) (C_run_length : C8.Cal P w K mg base 1 "run_length" spRun []) (M_InvalidText : ExS.MkX P w K mg base 1 "InvalidText" CI okIT fsIT) : FnOk P w K mg base (L2.CX P w) 3 f fd ["row", "line"] (spRow K CI) := by
  refine F.okX sc_tokens_of_line (fun vs H Q E h => ?_) (fun cdv A outer s H vs Q E hr h => ?_)
  · obtain ⟨r, n, rfl, _⟩ := h
    rfl
  · obtain ⟨r, n, rfl, h10, hl, hn, q, qe⟩ := h
    refine ⟨_, (pss_cons (ps_set (i := 2) sc_tokens_of_line.nd rfl (.inl rfl) (pe_lst pa_nil))
    (pss_cons (ps_set (i := 3) sc_tokens_of_line.nd rfl (.inl rfl) pe_int)
    (pss_cons (ps_while (passes_of rfl) (pt_cmpR op_lt (pv 3) (pe_callB call_len_str rfl T.n_len (by decide +kernel) (pa_cons (pv 0) pa_nil)) (nomark _))
      (pss_cons (ps_set (i := 4) sc_tokens_of_line.nd rfl (.inl rfl) (C8.pe_c C_run_length hr (by omega) rfl (pa_cons (pv 0) (pa_cons (pv 3) pa_nil))))
      (pss_one (ps_if (pt_cmpR op_gt (pv 4) pe_int (nomark _))
        (pss_cons (ps_expr (pe_bm PySem.F.plainAttrs_list PySem.F.slot_list_append PySem.F.type_list_append mt_append (pv 2) (pa_cons (pe_tup (pa_cons (pe_slice sl_str (pv 0) (po_some (pv 3)) (po_some (pe_op op_add (pv 3) (pv 4)))) (pa_cons (pv 1) (pa_cons (pe_op op_add (pv 3) pe_int) pa_nil)))) pa_nil)))
        (pss_one (ps_set (i := 3) sc_tokens_of_line.nd rfl (.inl rfl) (pe_op op_add (pv 3) (pv 4)))))
        (pss_one (ps_if (pt_cmpR op_in_sign (pe_ix ix_str (pv 0) (pv 3) (fun _ _ => rfl)) (C8.pe_gc rfl T.c_SIGNS) (by rfl))
          (pss_cons (ps_expr (pe_bm PySem.F.plainAttrs_list PySem.F.slot_list_append PySem.F.type_list_append mt_append (pv 2) (pa_cons (pe_tup (pa_cons (pe_ix ix_str (pv 0) (pv 3) (fun _ _ => rfl)) (pa_cons (pv 1) (pa_cons (pe_op op_add (pv 3) pe_int) pa_nil)))) pa_nil)))
          (pss_one (ps_set (i := 3) sc_tokens_of_line.nd rfl (.inl rfl) (pe_op op_add (pv 3) pe_int))))
          (pss_one (ps_if (pt_cmpR op_eq (pe_ix ix_str (pv 0) (pv 3) (fun _ _ => rfl)) pe_str (nomark _))
            (pss_one (ps_set (i := 3) sc_tokens_of_line.nd rfl (.inl rfl) (pe_op op_add (pv 3) pe_int)))
            (pss_one (ps_raise rfl (takes_of (E := E) rfl rfl rfl rfl) (ExS.pmk_X M_InvalidText hr (by omega) rfl (pa_cons (pv 1) (pa_cons (pe_op op_add (pv 3) pe_int) pa_nil)))))))))))))
    (pss_one (ps_ret (pv 2)))))), ?_⟩
    have lS : (S r).length = r.length := S_len r
    have zS : (S r).length ≤ sizeLine := szL (by omega)
    refine ⟨by show 0 ≤ sizeLine; decide, fun a na => ?_⟩
    have put : ∀ {k : Nat} {H' : Hp} {vs : List V} {z : T3} {H2 : Hp} {t : Addr}, Same H H' → H' a = some (.lst vs) → NewAll K H a H' vs ((row n (r.take k)).flush.map tokD) → H' t = none → H2 = upd H' t (.tup [.str (S z.1), .int (z.2.1 : Nat), .int (z.2.2 : Nat)]) →
        NewAll K H a (upd H2 a (.lst (vs ++ [.ref t]))) (vs ++ [.ref t]) (((row n (r.take k)).flush ++ [z]).map tokD) := fun {k H' vs z H2 t} sm ha nw nt e => by
      subst e
      rw [List.map_append]
      refine nw.snoc sm ha (same_upd nt) ?_
      exact fun H3 k3 => .tup (.inl (.inl (k3 t _ upd_same nt))) (.cons (.str _) (.cons (.int _) (.cons (.int _) .nil)))
    refine ⟨fun m σ' H' => ∃ (k : Nat) (vs : List V) (y : Option V), k ≤ r.length ∧ (∀ c ∈ r.take k, Good c) ∧ ((row n (r.take k)).cur = [] ∨ ∀ c, r[k]? = some c → c ∉ LET) ∧ σ' = [some (.str (S r)), some (.int (n : Nat)), some (.ref a), some (.int (k : Nat)), y] ∧
      Same H H' ∧ H' a = some (.lst vs) ∧ vs.length ≤ k ∧ NewAll K H a H' vs ((row n (r.take k)).flush.map tokD) ∧ m = r.length - k, ⟨_, 0, [], none, Nat.zero_le _, by simp, .inl rfl, rfl, same_upd na, upd_same, Nat.zero_le _, fun _ _ => .nil, rfl⟩, ?_⟩
    rintro m σ' H' ⟨k, vs, y, hk, hg, hb, rfl, sm, ha, hv, nw, rfl⟩
    refine ⟨_, rfl, .str (S r), rfl, S r, rfl, zS, _, _, rfl, rfl, _, rfl, ?_⟩
    rw [lS]
    by_cases c1 : k < r.length
    · rw [decide_eq_true (by omega)]
      refine iteT ⟨fun σ2 H2 => ∃ (k' : Nat) (vs' : List V) (y : Option V), k < k' ∧ k' ≤ r.length ∧ (∀ c ∈ r.take k', Good c) ∧ ((row n (r.take k')).cur = [] ∨ ∀ c, r[k']? = some c → c ∉ LET) ∧ σ2 = [some (.str (S r)), some (.int (n : Nat)), some (.ref a), some (.int (k' : Nat)), y] ∧
        Same H H2 ∧ H2 a = some (.lst vs') ∧ vs'.length ≤ k' ∧ NewAll K H a H2 vs' ((row n (r.take k')).flush.map tokD), fun σ2 H2 ⟨k', vs', y', h0, h1, h2, h3, h4, h5, h6, h7, h8⟩ => ⟨_, by show r.length - k' < r.length - k; omega, k', vs', y', h1, h2, h3, h4, h5, h6, h7, h8, rfl⟩, ?_⟩
      have hc := List.getElem?_eq_getElem c1
      have hll := lead_le (r.drop k)
      rw [List.length_drop] at hll
      refine ⟨_, rfl, _, rfl, r, k, rfl, hk, by omega, ?_⟩
      refine ⟨_, rfl, _, _, rfl, rfl, _, rfl, ?_⟩
      by_cases c2 : 0 < lead (r.drop k)
      · rw [decide_eq_true (by omega)]
        refine iteT ⟨_, rfl, .inl ⟨rfl, _, .inl (.inl ha)⟩, _, rfl, _, rfl, _, rfl, _, rfl, _, rfl, _, _, rfl, rfl, _, rfl, _, rfl, zS, _, rfl, _, rfl, _, _, rfl, rfl, by show 3 ≤ sizeLine; decide, fun t nt => ?_⟩
        have hta : t ≠ a := fun z => by rw [z, ha] at nt; cases nt
        refine ⟨a, vs, _, rfl, rfl, by rw [upd_ne (Ne.symm hta)]; exact ha, szl (by omega), ?_⟩
        refine ⟨_, rfl, _, rfl, _, _, rfl, rfl, k + lead (r.drop k), vs ++ [.ref t], _, by omega, by omega, ?_, .inr fun c q => ?_, rfl, same_mut (sm.trans (same_upd nt)) na, upd_same, by rw [List.length_append]; simp; omega, ?_⟩
        · intro c hcm
          rw [List.take_add] at hcm
          rcases List.mem_append.mp hcm with z | z
          · exact hg c z
          · exact .inl (lead_let _ c z)
        · exact lead_next (r.drop k) c (by rw [List.getElem?_drop]; exact q)
        · rw [step_run h10 hk c2 hb]
          refine put sm ha nw nt ?_
          show _ = upd H' t (.tup [.str (S ((r.drop k).take (lead (r.drop k)))), _, _])
          rw [← cut_mid r k (lead (r.drop k)) (by omega)]
          rfl
      · rw [decide_eq_false (by omega)]
        refine iteF ?_
        have cL : r[k] ∉ LET := fun z => c2 (by have := lead_more (r.drop k) 0 r[k] (Nat.zero_le _) (by rw [List.getElem?_drop]; exact hc) z; omega)
        have key := step_one (n := n) h10 hc cL
        have good1 : Good r[k] → ∀ c ∈ r.take (k + 1), Good c := fun hG c hm => by
          rw [List.take_add_one, hc] at hm
          rcases List.mem_append.mp hm with z | z
          · exact hg c z
          · rw [List.mem_singleton.mp z]; exact hG
        refine ⟨_, rfl, _, rfl, S r, _, _, rfl, rfl, zS, atI_ofNat (by omega) hc, _, _, rfl, rfl, _, rfl, ?_⟩
        rw [S_cps]
        by_cases c3 : r[k] ∈ SGN
        · rw [decide_eq_true c3]
          rw [if_pos c3] at key
          refine iteT ⟨_, rfl, .inl ⟨rfl, _, .inl (.inl ha)⟩, _, rfl, _, rfl, S r, _, _, rfl, rfl, zS, atI_ofNat (by omega) hc, _, rfl, _, rfl, _, _, rfl, rfl, by show 3 ≤ sizeLine; decide, fun t nt => ?_⟩
          have hta : t ≠ a := fun z => by rw [z, ha] at nt; cases nt
          refine ⟨a, vs, _, rfl, rfl, by rw [upd_ne (Ne.symm hta)]; exact ha, szl (by omega), ?_⟩
          refine ⟨_, rfl, _, _, rfl, rfl, k + 1, vs ++ [.ref t], _, by omega, by omega, good1 (.inr (.inl c3)), .inl key.2, rfl, same_mut (sm.trans (same_upd nt)) na, upd_same, by rw [List.length_append]; simp; omega, ?_⟩
          rw [key.1]
          exact put sm ha nw nt rfl
        · rw [decide_eq_false c3]
          rw [if_neg c3, List.append_nil] at key
          refine iteF ⟨_, rfl, _, rfl, S r, _, _, rfl, rfl, zS, atI_ofNat (by omega) hc, rfl, _, rfl, ?_⟩
          refine ite2 (fun e4 => ?_) (fun e4 => ?_)
          · have c4 : r[k] = 32 := sgn_inj ((of_decide_eq_true e4).trans rfl)
            refine ⟨_, rfl, _, _, rfl, rfl, k + 1, vs, _, by omega, by omega, good1 (.inr (.inr (.inl c4))), .inl key.2, rfl, sm, ha, by omega, ?_⟩
            rw [key.1]
            exact nw
          · have c4 : r[k] ≠ 32 := fun z => e4 (decide_eq_true (by rw [z]; rfl))
            refine ⟨_, rfl, _, rfl, _, _, rfl, rfl, ExS.mkx (by show 2 ≤ 1000; decide) ⟨_, _, rfl, ?_, ?_⟩ fun d H2 s2 nd hd => ?_⟩
            · exact ⟨by omega, by omega⟩
            · exact ⟨by omega, by omega⟩
            · refine qe k r[k] hc (fun hG => ?_) hg d H2 (sm.trans s2) hd
              rcases hG with z | z | z | z
              · exact cL z
              · exact c3 z
              · exact c4 z
              · exact h10 (by rw [← z]; exact List.getElem_mem _)
    · rw [decide_eq_false (by omega)]
      refine iteF ?_
      have e : k = r.length := by omega
      subst e
      rw [List.take_length] at hg nw
      exact ⟨_, rfl, q hg _ _ _ sm na ha nw⟩
end
end K33
set_option Elab.async false
set_option linter.all false
set_option maxRecDepth 100000
set_option maxHeartbeats 4000000
namespace K33
open PySem PySem.Spec PyProof.Rows L2 Tw Tk
section
variable {P : Program} {w : World} {K : PySem.W.Frag} {mg : Str → Option Value} {base : Heap} {CT CI CL : Addr}
/-! ### tokens -/
theorem dpAll_app {K : PySem.W.Frag} {H : Hp} : ∀ {vs ws : List V} {ds es : List PyData}, DpAll K H vs ds → DpAll K H ws es → DpAll K H (vs ++ ws) (ds ++ es)
  | _, _, _, _, .nil, h => h
  | _, _, _, _, .cons a t, h => .cons a (dpAll_app t h)
theorem newAll_app {K : PySem.W.Frag} {H H1 H2 : Hp} {a b : Addr} {vs zs : List V} {ds es : List PyData} {o z : HO} (h : NewAll K H a H1 vs ds) (hs : Same H H1) (hD : H1 a = some o) (s : Same H1 H2) (n : NewAll K H1 b H2 zs es) (nb : H2 b = some z → b ≠ a) (hb : H2 b = some z) {y : HO} : NewAll K H a (upd H2 a y) (vs ++ zs) (ds ++ es) := fun H3 k =>
  dpAll_app (h H3 fun c o e n0 nD => k c o (by rw [upd_ne nD]; exact s c o e) n0 nD) (n H3 fun c u e n1 _ => by
    have nD : c ≠ a := fun z => by rw [z, hD] at n1; cases n1
    exact k c u (by rw [upd_ne nD]; exact e) (hs.free n1) nD)
/-- the fields of InvalidText at the k-th sign -/
def placeF (l : List Nat) (k : Nat) : List (Str × V) := [("column", .int ((tl (l.take k) + 1 : Nat) : Int)), ("line", .int ((1 + (l.take k).count 10 : Nat) : Int))]
def spToks (K : PySem.W.Frag) (CI : Addr) : Sp := fun vs H Q E => ∃ (l : List Nat), vs = [.str (S l)] ∧ l.length ≤ 10000 ∧
  ((∀ c ∈ l, Good c) → ∀ H' a vs, Same H H' → H a = none → H' a = some (.lst vs) → NewAll K H a H' vs ((toks l).map tokD) → Q (.ref a) H') ∧
  (∀ k c, l[k]? = some c → ¬ Good c → (∀ d ∈ l.take k, Good d) → ∀ d H', Same H H' → H' d = some (.xd (placeF l k)) → E (.ref CI) (some d) H')
abbrev s_tokens : Stmt := topS 9
theorem sc_tokens : FnScope ["text", "found", "line", "row"] ["text"] (defScope s_tokens) := ⟨rfl, rfl, rfl, by decide +kernel, rfl, by decide +kernel, by decide +kernel⟩
theorem ok_toks {f : Addr} {fd : FuncData} (F : Fun K "tokens" "tokens" s_tokens f fd) (T : Tx mg) (C_tokens_of_line : ExS.CalX P w K mg base 3 "tokens_of_line" (spRow K CI)) : FnOk P w K mg base (L2.CX P w) 4 f fd ["text"] (spToks K CI) := by
  refine F.okX sc_tokens (fun vs H Q E h => ?_) (fun cdv A outer s H vs Q E hr h => ?_)
  · obtain ⟨l, rfl, _⟩ := h
    rfl
  · obtain ⟨l, rfl, hl, q, qe⟩ := h
    refine ⟨_, (pss_cons (ps_set (i := 1) sc_tokens.nd rfl (.inl rfl) (pe_lst pa_nil))
    (pss_cons (ps_for (passes_of rfl) rfl (pi_enumC rfl T.n_enumerate (pa_cons (pe_split (pv 0) pe_str) (pa_cons pe_int pa_nil))) (pg_tup rfl (pgs_cons (pg_name (i := 2) sc_tokens.nd rfl (.inl rfl)) (pgs_cons (pg_name (i := 3) sc_tokens.nd rfl (.inl rfl)) pgs_nil)))
      (pss_one (ps_expr (pe_bm PySem.F.plainAttrs_list PySem.F.slot_list_extend PySem.F.type_list_extend mt_extend (pv 1) (pa_cons (ExS.pe_cX C_tokens_of_line hr (by omega) rfl (fun σ => passAt (W := fun cls d _ H => E cls d H) (takes_of rfl rfl rfl rfl) σ) (pa_cons (pv 3) (pa_cons (pv 2) pa_nil))) pa_nil)))))
    (pss_one (ps_ret (pv 1))))), ?_⟩
    have lS : (S l).length = l.length := S_len l
    refine ⟨by show 0 ≤ sizeLine; decide, fun a na => ?_⟩
    refine ⟨.str (S l), rfl, ⟨_, rfl⟩, S l, ⟨#[10]⟩, rfl, rfl, rfl, szL (by omega), fun p np => ⟨.ref p, 1, rfl, ⟨by omega, by omega⟩, .inr ⟨p, _, rfl, .inl (.inl upd_same), ?_⟩⟩⟩
    rw [split_rows]
    have nap : a ≠ p := fun z => by rw [← z, upd_same] at np; cases np
    have s0 : Same H (upd (upd H a (.lst [])) p (.lst (((rows l).map S).map V.str))) := fun b o e => by
      rw [upd_ne (ne_of_none e ((same_upd na).free np)), upd_ne (ne_of_none e na)]
      exact e
    have hll : ((((rows l).map S).map V.str)).length = (rows l).length := by rw [List.length_map, List.length_map]
    refine for_enumLC (xs := ((rows l).map S).map V.str) (fun i σ' H' => ∃ (vs : List V) (y2 y3 : Option V), σ' = [some (.str (S l)), some (.ref a), y2, y3] ∧ Same H H' ∧ H' p = some (.lst (((rows l).map S).map V.str)) ∧ H' a = some (.lst vs) ∧
      NewAll K H a H' vs ((rowsToks 1 ((rows l).take i)).map tokD) ∧ ∀ r ∈ (rows l).take i, ∀ c ∈ r, Good c) ?_ ?_ ?_ ?_
    · exact ⟨[], none, none, rfl, s0, upd_same, by rw [upd_ne nap, upd_same], fun _ _ => .nil, by simp⟩
    · rintro i σ' H' _ ⟨_, _, _, _, _, h, _⟩
      exact .inl (.inl h)
    · rintro i x T1 σ' H' hx ⟨vs, y2, y3, rfl, sm, hp, ha, nw, hg⟩ nT
      obtain ⟨r, hr, rfl⟩ : ∃ r, (rows l)[i]? = some r ∧ x = V.str (S r) := by
        rw [List.getElem?_map, List.getElem?_map] at hx
        cases e : (rows l)[i]? with
        | none => rw [e] at hx; cases hx
        | some r => rw [e] at hx; exact ⟨r, rfl, (Option.some.inj hx).symm⟩
      have hi := (List.getElem?_eq_some_iff.mp hr).1
      have hrl := rows_len l
      have hcl := List.count_le_length (a := 10) (l := l)
      have har := ahead_row hr
      have hT1 := rowsToks_len ((rows l).take i) 1
      have hvl : vs.length = (rowsToks 1 ((rows l).take i)).length := by
        have := dpAll_len (nw H' fun b o e _ _ => e)
        rw [List.length_map] at this
        exact this
      have s1 : Same H' (upd H' T1 (.tup [.int (1 + (i : Nat)), .str (S r)])) := same_upd nT
      refine ⟨T1, _, rfl, .inl (.inl upd_same), rfl, _, _, rfl, _, _, rfl, rfl, ?_⟩
      refine ⟨_, rfl, .inl ⟨rfl, _, .inl (.inl (s1 _ _ ha))⟩, _, rfl, _, rfl, r, 1 + i, rfl, rows_free l r (List.mem_of_getElem? hr), by have := rows_short l r (List.mem_of_getElem? hr); omega, by omega, fun hG H2 b zs s2 nb hb nz => ?_, fun j c hc hbad hgood d H2 s2 hd => ?_⟩
      · have nba : b ≠ a := fun z => by rw [z, s1 _ _ ha] at nb; cases nb
        have nbp : b ≠ p := fun z => by rw [z, s1 _ _ hp] at nb; cases nb
        have hzl : zs.length ≤ r.length := by
          have := dpAll_len (nz H2 fun b o e _ _ => e)
          rw [List.length_map] at this
          rw [this]
          exact flush_len _ _
        refine ⟨a, b, vs, zs, rfl, rfl, s2 _ _ (s1 _ _ ha), hb, szL (by omega), vs ++ zs, _, _, rfl, ?_, ?_, upd_same, ?_, ?_⟩
        · exact same_mut (sm.trans (s1.trans s2)) na
        · rw [upd_ne (Ne.symm nap)]
          exact s2 _ _ (s1 _ _ hp)
        · have e := rowsToks_snoc ((rows l).take i) r 1
          rw [List.take_add_one, hr]
          show NewAll K H a _ _ ((rowsToks 1 ((rows l).take i ++ [r])).map tokD)
          rw [e, List.map_append, List.length_take, Nat.min_eq_left (Nat.le_of_lt hi)]
          refine newAll_app nw sm ha (s1.trans s2) (b := b) (z := .lst zs) ?_ (fun _ => nba) hb
          exact fun H3 k3 => nz H3 fun c o e n1 nb' => k3 c o e (s1.free n1) nb'
        · intro r' hr'
          rw [List.take_add_one, hr] at hr'
          rcases List.mem_append.mp hr' with z | z
          · exact hg r' z
          · rw [List.mem_singleton.mp z]; exact hG
      · obtain ⟨k, hk, e1, e2, e3⟩ := row_place hr hc
        refine qe k c hk hbad (fun d hd => ?_) d H2 ((sm.trans s1).trans s2) ?_
        · rw [e1] at hd
          rcases List.mem_append.mp hd with z | z
          · rcases mem_ahead z with y | ⟨r', hr', hc'⟩
            · exact .inr (.inr (.inr y))
            · exact hg r' hr' _ hc'
          · exact hgood _ z
        · unfold placeF
          rw [e2, e3]
          exact hd
    · rintro σ' H' ⟨vs, y2, y3, rfl, sm, hp, ha, nw, hg⟩
      rw [hll, List.take_length] at nw hg
      rw [← toks_rows] at nw
      exact ⟨_, rfl, q (good_all hg) _ _ _ sm na ha nw⟩
end
end K33
set_option Elab.async false
set_option linter.all false
set_option maxRecDepth 100000
set_option maxHeartbeats 4000000
namespace K33
open PySem PySem.Spec PyProof.Rows L2 Tw Tk
section
variable {P : Program} {w : World} {K : PySem.W.Frag} {mg : Str → Option Value} {base : Heap} {CT CI CL : Addr}
/-! ### the deck -/
/-- a list of numbers, none below nought -/
def Deck (H : Hp) (p : Addr) : Prop := ∃ ds : List Int, H p = some (.lst (ds.map V.int)) ∧ (∀ d ∈ ds, 0 ≤ d) ∧ ds.length ≤ 20000
def spDeck (K : PySem.W.Frag) : Sp := fun vs H Q _ => ∃ (a : Addr) (ns : List Int) (c e : Nat), vs = [.ref a, .int (c : Nat), .int (e : Nat)] ∧ SqL K H a (ns.map V.int) ∧ ns.length ≤ 63 ∧ c ≤ 1000 ∧ e ≤ 1000 ∧ c * e ≤ 20000 ∧
  ∀ H' p, Same H H' → H p = none → Deck H' p → Q (.ref p) H'
abbrev s__law_deck : Stmt := topS 12
theorem sc__law_deck : FnScope ["script", "cells", "each", "deck", "seed", "k", "cell", "rest", "at"] ["script", "cells", "each"] (defScope s__law_deck) := ⟨rfl, rfl, rfl, by decide +kernel, rfl, by decide +kernel, by decide +kernel⟩
theorem ok_deck {f : Addr} {fd : FuncData} (F : Fun K "_law_deck" "_law_deck" s__law_deck f fd) (T : Tx mg) : FnOk P w K mg base CX0 1 f fd ["script", "cells", "each"] (spDeck K) := by
  refine F.ok sc__law_deck (fun vs H Q E h => ?_) (fun cdv A outer s H vs Q E hr h => ?_)
  · obtain ⟨a, ns, c, e, rfl, _⟩ := h
    rfl
  · obtain ⟨a, ns, c, e, rfl, hS, hl, hc, he, hce, q⟩ := h
    refine ⟨_, (pss_cons (ps_set (i := 3) sc__law_deck.nd rfl (.inl rfl) (pe_lst pa_nil))
    (pss_cons (ps_set (i := 4) sc__law_deck.nd rfl (.inl rfl) (pe_op op_add pe_int (pe_callB call_len_seq rfl T.n_len (by decide +kernel) (pa_cons (pv 0) pa_nil))))
    (pss_cons (ps_for PassesOwn.never rfl (pi_range1 rfl T.n_range (pa_cons (pv 1) pa_nil)) (pg_name (i := 5) sc__law_deck.nd rfl (.inl rfl))
      (pss_cons (ps_set (i := 6) sc__law_deck.nd rfl (.inl rfl) pe_int)
      (C8.pss_cut (ps_if (pt_cmpR op_lt (pv 5) (pe_callB call_len_seq rfl T.n_len (by decide +kernel) (pa_cons (pv 0) pa_nil)) (nomark _))
        (pss_one (ps_set (i := 6) sc__law_deck.nd rfl (.inl rfl) (pe_ix ix_list (pv 0) (pv 5) (fun _ _ => rfl))))
        pss_nil)
      (pss_cons (ps_set (i := 7) sc__law_deck.nd rfl (.inl rfl) (pe_callB call_abs rfl T.n_abs (by decide +kernel) (pa_cons (pv 6) pa_nil)))
      (pss_one (ps_if (pt_cmpR op_ge (pv 7) (pe_op op_pow pe_int pe_int) (nomark _))
        (pss_one (ps_for PassesOwn.never rfl (pi_range1 rfl T.n_range (pa_cons (pv 2) pa_nil)) (pg_name (i := 8) sc__law_deck.nd rfl (.inl rfl))
          (pss_cons (ps_expr (pe_bm PySem.F.plainAttrs_list PySem.F.slot_list_append PySem.F.type_list_append mt_append (pv 3) (pa_cons (pe_op op_mod (pe_callTy call_int1 rfl T.n_int (by decide +kernel) (pa_cons (pv 7) pa_nil)) pe_int) pa_nil)))
          (pss_one (ps_set (i := 7) sc__law_deck.nd rfl (.inl rfl) (pe_op op_fdiv (pv 7) pe_int))))))
        (pss_cons (ps_set (i := 4) sc__law_deck.nd rfl (.inl rfl) (pe_op op_mod (pe_callTy call_int1 rfl T.n_int (by decide +kernel) (pa_cons (pe_op op_add (pe_op op_add (pe_op op_add (pe_op op_mul (pv 4) pe_int) (pe_op op_mul pe_int (pv 7))) (pe_callTy call_int1 rfl T.n_int (by decide +kernel) (pa_cons (pe_cmpR op_lt (pv 6) pe_int (nomark _)) pa_nil))) (pv 5)) pa_nil)) pe_int))
        (pss_one (ps_for PassesOwn.never rfl (pi_range1 rfl T.n_range (pa_cons (pv 2) pa_nil)) (pg_name (i := 8) sc__law_deck.nd rfl (.inl rfl))
          (pss_cons (ps_set (i := 4) sc__law_deck.nd rfl (.inl rfl) (pe_op op_mod (pe_callTy call_int1 rfl T.n_int (by decide +kernel) (pa_cons (pe_op op_add (pe_op op_add (pe_op op_mul (pv 4) pe_int) (pv 8)) pe_int) pa_nil)) pe_int))
          (pss_one (ps_expr (pe_bm PySem.F.plainAttrs_list PySem.F.slot_list_append PySem.F.type_list_append mt_append (pv 3) (pa_cons (pe_op op_mod (pe_callTy call_int1 rfl T.n_int (by decide +kernel) (pa_cons (pe_op op_fdiv (pv 4) pe_int) pa_nil)) pe_int) pa_nil))))))))))))))
    (pss_cons (ps_expr (pe_bm0 PySem.F.plainAttrs_list PySem.F.slot_list_reverse PySem.F.type_list_reverse mt_reverse (pv 3)))
    (pss_one (ps_ret (pv 3))))))), ?_⟩
    refine ⟨Nat.zero_le _, fun p np => ?_⟩
    have s0 : Same H (upd H p (.lst [])) := same_upd np
    refine ⟨.ref a, rfl, a, _, rfl, .inl (s0.seq hS), _, _, rfl, rfl, ?_⟩
    refine ⟨_, rfl, _, rfl, by omega, by omega, ?_⟩
    rw [show ((c : Int).toNat) = c by omega]
    refine for_range (lo := 0) (n := c) (fun i σ H' => ∃ (seed : Int) (y5 y6 y7 y8 : Option V) (ds : List Int), σ = [some (.ref a), some (.int (c : Nat)), some (.int (e : Nat)), some (.ref p), some (.int seed), y5, y6, y7, y8] ∧ Same H H' ∧ H' p = some (.lst (ds.map V.int)) ∧ (∀ d ∈ ds, 0 ≤ d) ∧ ds.length = i * e) ?_ ?_ ?_
    · exact ⟨_, _, _, _, _, [], rfl, s0, upd_same, fun d h => (by simp at h), by simp⟩
    · rintro i σ H1 hi ⟨seed, y5, y6, y7, y8, ds, rfl, s1, h1, nn, hd⟩
      have hie : i * e + e ≤ 20000 := by
        have := Nat.mul_le_mul_right e (show i + 1 ≤ c by omega)
        rw [Nat.add_mul, Nat.one_mul] at this
        omega
      -- if k < len(script): cell = script[k]
      refine ⟨fun σ' H' => H' = H1 ∧ ∃ cell : Int, σ' = [some (.ref a), some (.int (c : Nat)), some (.int (e : Nat)), some (.ref p), some (.int seed), some (.int (0 + (i : Nat))), some (.int cell), y7, y8], ?_, ?_⟩
      · refine ⟨_, rfl, _, rfl, a, _, rfl, .inl (s1.seq hS), _, _, rfl, rfl, _, rfl, ite2 (fun e1 => ?_) (fun e1 => ⟨rfl, 0, rfl⟩)⟩
        have e2 := of_decide_eq_true e1
        rw [List.length_map] at e2
        have hk : i < ns.length := by omega
        refine ⟨_, rfl, _, rfl, a, _, _, .int ns[i], rfl, rfl, s1.seq hS, atI_ofNat (by omega) (by rw [show (0 + (i : Int)).toNat = i by omega, List.getElem?_map, List.getElem?_eq_getElem hk]; rfl), rfl, _, rfl⟩
      · rintro σ' H' ⟨rfl, cell, rfl⟩
        -- rest = abs(cell); if rest >= 10 ** 30
        refine ⟨_, rfl, cell, rfl, ?_⟩
        refine ⟨_, rfl, _, _, rfl, rfl, ⟨by decide, by decide, by decide⟩, _, _, rfl, rfl, _, rfl, ite2 (fun _ => ?_) (fun _ => ?_)⟩
        · refine ⟨_, rfl, _, rfl, by omega, by omega, ?_⟩
          rw [show ((e : Int).toNat) = e by omega]
          refine for_range (lo := 0) (n := e) (fun j σ H2 => ∃ (rest : Int) (y8 : Option V) (ds' : List Int), σ = [some (.ref a), some (.int (c : Nat)), some (.int (e : Nat)), some (.ref p), some (.int seed), some (.int (0 + (i : Nat))), some (.int cell), some (.int rest), y8] ∧ Same H H2 ∧ H2 p = some (.lst (ds'.map V.int)) ∧ (∀ d ∈ ds', 0 ≤ d) ∧ ds'.length = i * e + j) ?_ ?_ ?_
          · exact ⟨_, _, ds, rfl, s1, h1, nn, hd⟩
          · rintro j σ H2 hj ⟨rest, y8, ds', rfl, s2, h2, nn2, hd2⟩
            refine ⟨_, rfl, .inl ⟨rfl, _, .inl (.inl h2)⟩, _, rfl, .inl ⟨rest, rfl, ?_⟩⟩
            refine ⟨_, _, rfl, rfl, (by show (0 : Int) < 1000003; decide), p, _, _, rfl, rfl, h2, szl (by rw [List.length_map]; omega), ?_⟩
            refine ⟨_, rfl, _, _, rfl, rfl, ⟨by decide, by decide⟩, ?_⟩
            refine ⟨_, _, ds' ++ [rest % 1000003], rfl, same_mut s2 np, by rw [upd_same, List.map_append]; rfl, fun d hdd => ?_, by rw [List.length_append]; simp; omega⟩
            rcases List.mem_append.mp hdd with z | z
            · exact nn2 d z
            · rw [List.mem_singleton.mp z]; exact Int.emod_nonneg _ (by decide)
          · rintro σ H2 ⟨rest, y8, ds', rfl, s2, h2, nn2, hd2⟩
            exact ⟨_, _, _, _, _, ds', rfl, s2, h2, nn2, by rw [hd2, Nat.add_mul, Nat.one_mul]⟩
        · refine ⟨_, rfl, _, _, rfl, rfl, .inr ⟨by decide, by decide⟩, _, rfl, _, _, rfl, rfl, .inl ⟨by decide, by decide⟩, _, _, rfl, rfl, _, rfl, _, _, rfl, rfl, .inr ⟨_, rfl, ?_⟩⟩
          refine ⟨_, _, rfl, rfl, _, rfl, _, _, rfl, rfl, .inl ⟨_, rfl, ?_⟩⟩
          refine ⟨_, _, rfl, rfl, (by show (0 : Int) < 2147483647; decide), ?_⟩
          refine ⟨_, rfl, _, rfl, by omega, by omega, ?_⟩
          rw [show ((e : Int).toNat) = e by omega]
          refine for_range (lo := 0) (n := e) (fun j σ H2 => ∃ (seed rest : Int) (y8 : Option V) (ds' : List Int), σ = [some (.ref a), some (.int (c : Nat)), some (.int (e : Nat)), some (.ref p), some (.int seed), some (.int (0 + (i : Nat))), some (.int cell), some (.int rest), y8] ∧ Same H H2 ∧ H2 p = some (.lst (ds'.map V.int)) ∧ (∀ d ∈ ds', 0 ≤ d) ∧ ds'.length = i * e + j) ?_ ?_ ?_
          · exact ⟨_, _, _, ds, rfl, s1, h1, nn, hd⟩
          · rintro j σ H2 hj ⟨seed2, rest, y8, ds', rfl, s2, h2, nn2, hd2⟩
            refine ⟨_, rfl, _, _, rfl, rfl, .inr ⟨by decide, by decide⟩, _, rfl, _, _, rfl, rfl, _, _, rfl, rfl, .inl ⟨_, rfl, ?_⟩⟩
            refine ⟨_, _, rfl, rfl, (by show (0 : Int) < 2147483629; decide), ?_⟩
            refine ⟨_, rfl, .inl ⟨rfl, _, .inl (.inl h2)⟩, _, rfl, _, _, rfl, rfl, ⟨by decide, by decide⟩, .inl ⟨_, rfl, ?_⟩⟩
            refine ⟨_, _, rfl, rfl, (by show (0 : Int) < 1000003; decide), p, _, _, rfl, rfl, h2, szl (by rw [List.length_map]; omega), ?_⟩
            refine ⟨_, _, _, ds' ++ [_], rfl, same_mut s2 np, by rw [upd_same, List.map_append]; rfl, fun d hdd => ?_, by rw [List.length_append]; simp; omega⟩
            rcases List.mem_append.mp hdd with z | z
            · exact nn2 d z
            · rw [List.mem_singleton.mp z]; exact Int.emod_nonneg _ (by decide)
          · rintro σ H2 ⟨seed2, rest, y8, ds', rfl, s2, h2, nn2, hd2⟩
            exact ⟨_, _, _, _, _, ds', rfl, s2, h2, nn2, by rw [hd2, Nat.add_mul, Nat.one_mul]⟩
    · rintro σ H1 ⟨seed, y5, y6, y7, y8, ds, rfl, s1, h1, nn, hd⟩
      -- deck.reverse(); return deck
      refine ⟨_, rfl, .inl ⟨rfl, _, .inl (.inl h1)⟩, p, _, rfl, rfl, h1, ?_⟩
      refine ⟨_, rfl, q _ p (same_mut s1 np) np ⟨ds.reverse, by rw [upd_same, List.map_reverse], fun d hdd => nn d (List.mem_reverse.mp hdd), by rw [List.length_reverse, hd]; exact hce⟩⟩
def spTake : Sp := fun vs H Q _ => ∃ (p : Addr) (m : Int), vs = [.ref p, .int m] ∧ 0 < m ∧ Deck H p ∧ ∀ H' r, Kp p H H' → Deck H' p → 0 ≤ r → r < m → Q (.int r) H'
abbrev s__law_take : Stmt := topS 13
theorem sc__law_take : FnScope ["deck", "many"] ["deck", "many"] (defScope s__law_take) := ⟨rfl, rfl, rfl, by decide +kernel, rfl, by decide +kernel, by decide +kernel⟩
theorem ok_take {f : Addr} {fd : FuncData} (F : Fun K "_law_take" "_law_take" s__law_take f fd) (T : Tx mg) : FnOk P w K mg base CX0 1 f fd ["deck", "many"] spTake := by
  refine F.ok sc__law_take (fun vs H Q E h => ?_) (fun cdv A outer s H vs Q E hr h => ?_)
  · obtain ⟨p, m, rfl, _⟩ := h
    rfl
  · obtain ⟨p, m, rfl, hm, ⟨ds, hp, nn, hl⟩, q⟩ := h
    refine ⟨_, (pss_cons (ps_if (pt_cmpR op_eq (pe_callB call_len_seq rfl T.n_len (by decide +kernel) (pa_cons (pv 0) pa_nil)) pe_int (nomark _))
      (pss_one (ps_ret pe_int))
      pss_nil)
    (pss_one (ps_ret (pe_op op_mod (pe_callTy call_int1 rfl T.n_int (by decide +kernel) (pa_cons (pe_bm0 PySem.F.plainAttrs_list PySem.F.slot_list_pop PySem.F.type_list_pop mt_pop (pv 0)) pa_nil)) (pv 1))))), ?_⟩
    refine ⟨_, rfl, p, _, rfl, .inl (.inl (.inl hp)), rfl, _, rfl, ite2 (fun e => ?_) (fun e => ?_)⟩
    · exact q H 0 (Kp.refl p H) ⟨ds, hp, nn, hl⟩ (Int.le_refl 0) hm
    · have hne : ds ≠ [] := fun z => e (by subst z; exact decide_eq_true rfl)
      have e0 : ds = ds.dropLast ++ [ds.getLast hne] := (List.dropLast_concat_getLast hne).symm
      have hg : (ds.map V.int)[(ds.map V.int).length - 1]? = some (.int (ds.getLast hne)) := by
        rw [List.length_map, List.getElem?_map, ← List.getLast?_eq_getElem?, List.getLast?_eq_getLast hne]
        rfl
      refine ⟨_, rfl, .inl ⟨rfl, _, .inl (.inl hp)⟩, p, _, _, rfl, rfl, hp, hg, .inl ⟨_, rfl, _, rfl, ?_⟩⟩
      refine ⟨_, _, rfl, rfl, hm, ?_⟩
      refine q _ _ Kp.upd ⟨ds.dropLast, by rw [upd_same, List.map_dropLast], fun d hd => nn d (by rw [e0]; exact List.mem_append_left _ hd), by rw [List.length_dropLast]; omega⟩ (Int.emod_nonneg _ (by omega)) (Int.emod_lt_of_pos _ hm)
/-! ### place_behind, _law_place -/
def spBehind (K : PySem.W.Frag) : Sp := fun vs H Q _ => ∃ (l : List Nat), vs = [.str (S l)] ∧ l.length ≤ 10000 ∧ ∀ H' p, Same H H' → H p = none → H' p = some (.tup [.int ((1 + l.count 10 : Nat) : Int), .int ((tl l + 1 : Nat) : Int)]) → Q (.ref p) H'
abbrev s_place_behind : Stmt := topS 10
theorem sc_place_behind : FnScope ["text", "rows"] ["text"] (defScope s_place_behind) := ⟨rfl, rfl, rfl, by decide +kernel, rfl, by decide +kernel, by decide +kernel⟩
theorem ok_behind {f : Addr} {fd : FuncData} (F : Fun K "place_behind" "place_behind" s_place_behind f fd) (T : Tx mg) : FnOk P w K mg base CX0 1 f fd ["text"] (spBehind K) := by
  refine F.ok sc_place_behind (fun vs H Q E h => ?_) (fun cdv A outer s H vs Q E hr h => ?_)
  · obtain ⟨l, rfl, _⟩ := h
    rfl
  · obtain ⟨l, rfl, hl, q⟩ := h
    refine ⟨_, (pss_cons (ps_set (i := 1) sc_place_behind.nd rfl (.inl rfl) (pe_split (pv 0) pe_str))
    (pss_one (ps_ret (pe_tup (pa_cons (pe_callB call_len_seq rfl T.n_len (by decide +kernel) (pa_cons (pv 1) pa_nil)) (pa_cons (pe_op op_add (pe_callB call_len_str rfl T.n_len (by decide +kernel) (pa_cons (pe_ix ix_list (pv 1) (pe_un un_neg pe_int) (fun _ _ => rfl)) pa_nil)) pe_int) pa_nil)))))), ?_⟩
    refine ⟨.str (S l), rfl, ⟨_, rfl⟩, S l, ⟨#[10]⟩, rfl, rfl, rfl, szL (by rw [S_len]; omega), fun p np => ?_⟩
    rw [split_rows]
    have hrl := rows_len l
    have hcl := List.count_le_length (a := 10) (l := l)
    obtain ⟨r, hr1, hr2⟩ := rows_last l
    have hll : (((rows l).map S).map V.str).length = (rows l).length := by rw [List.length_map, List.length_map]
    have hg : (((rows l).map S).map V.str)[(-1 + ((((rows l).map S).map V.str).length : Int)).toNat]? = some (.str (S r)) := by
      rw [hll, show (-1 + ((rows l).length : Int)).toNat = (rows l).length - 1 by omega, List.getElem?_map, List.getElem?_map, ← List.getLast?_eq_getElem?, hr1]
      rfl
    have hrs := rows_short l r (List.mem_of_getLast? hr1)
    refine ⟨_, rfl, p, _, rfl, .inl (.inl (.inl upd_same)), ⟨_, rfl, 1, rfl, p, _, _, _, rfl, rfl, .inl (.inl upd_same), atI_neg (by omega) (by rw [hll]; omega) hg, S r, rfl, szL (by rw [S_len]; omega), _, _, rfl, rfl, by show 2 ≤ sizeLine; decide, fun t nt => ?_⟩⟩
    refine q _ t ((same_upd np).trans (same_upd nt)) ((same_upd np).free nt) ?_
    rw [upd_same, hll, S_len, hrl, hr2]
    congr 4
    omega
def spPlace (K : PySem.W.Frag) : Sp := fun vs H Q _ => ∃ (l : List Nat) (k : Nat), vs = [.str (S l), .int (k : Nat)] ∧ k ≤ l.length ∧ l.length ≤ 10000 ∧ ∀ H' p, Same H H' → H p = none → H' p = some (.tup [.int ((1 + (l.take k).count 10 : Nat) : Int), .int ((tl (l.take k) + 1 : Nat) : Int)]) → Q (.ref p) H'
abbrev s__law_place : Stmt := topS 18
theorem sc__law_place : FnScope ["text", "at"] ["text", "at"] (defScope s__law_place) := ⟨rfl, rfl, rfl, by decide +kernel, rfl, by decide +kernel, by decide +kernel⟩
theorem ok_place {f : Addr} {fd : FuncData} (F : Fun K "_law_place" "_law_place" s__law_place f fd) (T : Tx mg) : FnOk P w K mg base CX0 1 f fd ["text", "at"] (spPlace K) := by
  refine F.ok sc__law_place (fun vs H Q E h => ?_) (fun cdv A outer s H vs Q E hr h => ?_)
  · obtain ⟨l, k, rfl, _⟩ := h
    rfl
  · obtain ⟨l, k, rfl, hk, hl, q⟩ := h
    refine ⟨_, (pss_one (ps_ret (pe_tup (pa_cons (pe_op op_add pe_int (pe_bm PySem.F.plainAttrs_str PySem.F.slot_str_count PySem.F.type_str_count mt_count (pe_slice sl_str (pv 0) po_none (po_some (pv 1))) (pa_cons pe_str pa_nil))) (pa_cons (pe_op op_add (pe_op op_sub (pv 1) (pe_op op_add (pe_bm PySem.F.plainAttrs_str PySem.F.slot_str_rfind PySem.F.type_str_rfind mt_rfind (pe_slice sl_str (pv 0) po_none (po_some (pv 1))) (pa_cons pe_str pa_nil)) pe_int)) pe_int) pa_nil))))), ?_⟩
    have zl : (S l).length ≤ sizeLine := szL (by rw [S_len]; omega)
    have lk : (l.take k).length = k := by rw [List.length_take]; omega
    refine ⟨_, rfl, _, rfl, _, rfl, S l, rfl, zl, rfl, _, _, rfl, rfl, _, _, rfl, rfl, ?_⟩
    refine ⟨_, rfl, _, rfl, _, rfl, _, rfl, S l, rfl, zl, rfl, _, _, rfl, rfl, _, _, rfl, rfl, _, _, rfl, rfl, _, _, rfl, rfl, by show 2 ≤ sizeLine; decide, fun t nt => ?_⟩
    refine q _ t (same_upd nt) nt ?_
    have e1 : Txt.count (cutS (S l) none (some (k : Int))) (PySem.Str.ofString "\n") = ((l.take k).count 10 : Nat) := by rw [cut_to]; exact count_S _
    have e2 : Txt.rfind (cutS (S l) none (some (k : Int))) (PySem.Str.ofString "\n") = (k : Int) - tl (l.take k) - 1 := by
      rw [cut_to]
      have := rfind_S (l.take k)
      rw [lk] at this
      exact this
    rw [upd_same]
    show some (HO.tup [V.int (1 + Txt.count (cutS (S l) none (some (k : Int))) (PySem.Str.ofString "\n")), V.int ((k : Int) - (Txt.rfind (cutS (S l) none (some (k : Int))) (PySem.Str.ofString "\n") + 1) + 1)]) = _
    rw [e1, e2, show ((k : Int) - ((k : Int) - tl (l.take k) - 1 + 1) + 1) = ((tl (l.take k) + 1 : Nat) : Int) by omega]
    rfl
/-! ### _law_gap -/
def gapsL : List (List Nat) := [[], [32], [32, 32], [10], [32, 10, 32, 32], [10, 10]]
def GapOk (g : List Nat) : Prop := (∀ c ∈ g, c = 32 ∨ c = 10) ∧ g.length ≤ 4
theorem gaps_ok : ∀ g ∈ gapsL, GapOk g := by
  intro g hg
  unfold GapOk
  revert g
  decide
def spGap (K : PySem.W.Frag) : Sp := fun vs H Q _ => ∃ (p : Addr) (b : Bool), vs = [.ref p, .bl b] ∧ Deck H p ∧ ∀ H' g, Kp p H H' → Deck H' p → GapOk g → (b = true → g ≠ []) → Q (.str (S g)) H'
abbrev s__law_gap : Stmt := topS 16
theorem sc__law_gap : FnScope ["deck", "need", "way", "gaps"] ["deck", "need"] (defScope s__law_gap) := ⟨rfl, rfl, rfl, by decide +kernel, rfl, by decide +kernel, by decide +kernel⟩
theorem ok_gap {f : Addr} {fd : FuncData} (F : Fun K "_law_gap" "_law_gap" s__law_gap f fd) (T : Tx mg) (C__law_take : C8.Cal P w K mg base 1 "_law_take" spTake []) : FnOk P w K mg base CX0 2 f fd ["deck", "need"] (spGap K) := by
  refine F.ok sc__law_gap (fun vs H Q E h => ?_) (fun cdv A outer s H vs Q E hr h => ?_)
  · obtain ⟨p, b, rfl, _⟩ := h
    rfl
  · obtain ⟨p, b, rfl, hd, q⟩ := h
    refine ⟨_, (pss_cons (ps_set (i := 2) sc__law_gap.nd rfl (.inl rfl) (C8.pe_c C__law_take hr (by omega) rfl (pa_cons (pv 0) (pa_cons pe_int pa_nil))))
    (pss_cons (ps_set (i := 3) sc__law_gap.nd rfl (.inl rfl) (pe_lst (pa_cons pe_str (pa_cons pe_str (pa_cons pe_str (pa_cons pe_str (pa_cons pe_str (pa_cons pe_str pa_nil))))))))
    (pss_one (ps_ret (pe_ifExp (PW.pt (pw_and (pt_val (pv 1)) (pw_and1 (pt_cmpR op_eq (pe_ix ix_list (pv 3) (pv 2) (fun _ _ => rfl)) pe_str (nomark _))))) pe_str (pe_ix ix_list (pv 3) (pv 2) (fun _ _ => rfl))))))), ?_⟩
    refine ⟨_, rfl, p, 6, rfl, by decide, hd, fun H1 w k1 hd1 w0 w1 => ?_⟩
    refine ⟨by show 6 ≤ sizeLine; decide, fun r nr => ?_⟩
    have hrv : upd H1 r (.lst [V.str (PySem.Str.ofString ""), V.str (PySem.Str.ofString " "), V.str (PySem.Str.ofString "  "), V.str (PySem.Str.ofString "\n"), V.str (PySem.Str.ofString " \n  "), V.str (PySem.Str.ofString "\n\n")]) r = some (.lst (gapsL.map fun g => V.str (S g))) := upd_same
    have kk : Kp p H (upd H1 r (.lst [V.str (PySem.Str.ofString ""), V.str (PySem.Str.ofString " "), V.str (PySem.Str.ofString "  "), V.str (PySem.Str.ofString "\n"), V.str (PySem.Str.ofString " \n  "), V.str (PySem.Str.ofString "\n\n")])) := k1.trans (Kp.of (same_upd nr))
    have dd : Deck (upd H1 r (.lst [V.str (PySem.Str.ofString ""), V.str (PySem.Str.ofString " "), V.str (PySem.Str.ofString "  "), V.str (PySem.Str.ofString "\n"), V.str (PySem.Str.ofString " \n  "), V.str (PySem.Str.ofString "\n\n")])) p := let ⟨ds, a, b⟩ := hd1; ⟨ds, same_upd nr _ _ a, b⟩
    obtain ⟨g, hg⟩ : ∃ g, gapsL[w.toNat]? = some g := ⟨_, List.getElem?_eq_getElem (show w.toNat < 6 by omega)⟩
    have hgv : (gapsL.map fun g => V.str (S g))[w.toNat]? = some (.str (S g)) := by rw [List.getElem?_map, hg]; rfl
    have gok := gaps_ok g (List.mem_of_getElem? hg)
    have last : (b = true → g ≠ []) → Q (.str (S g)) (upd H1 r (.lst [V.str (PySem.Str.ofString ""), V.str (PySem.Str.ofString " "), V.str (PySem.Str.ofString "  "), V.str (PySem.Str.ofString "\n"), V.str (PySem.Str.ofString " \n  "), V.str (PySem.Str.ofString "\n\n")])) := fun h => q _ g kk dd gok h
    cases b with
    | false =>
      exact ⟨_, rfl, _, rfl, iteF (iteF ⟨_, rfl, _, rfl, r, _, w, _, rfl, rfl, .inl (.inl hrv), atI_ofNat w0 hgv, last fun z => by cases z⟩)⟩
    | true =>
      refine ⟨_, rfl, _, rfl, iteT ⟨_, rfl, _, rfl, r, _, w, _, rfl, rfl, .inl (.inl hrv), atI_ofNat w0 hgv, rfl, _, rfl, ite2 (fun e => ?_) (fun e => ?_)⟩⟩
      · exact q _ [32] kk dd ⟨by simp, by decide⟩ fun _ => by simp
      · exact ⟨_, rfl, _, rfl, r, _, w, _, rfl, rfl, .inl (.inl hrv), atI_ofNat w0 hgv, last fun _ z => e (decide_eq_true (by rw [z]; rfl))⟩
end
end K33
set_option Elab.async false
set_option linter.all false
set_option maxRecDepth 100000
set_option maxHeartbeats 4000000
namespace K33
open PySem PySem.Spec PyProof.Rows L2 Tw Tk
section
variable {P : Program} {w : World} {K : PySem.W.Frag} {mg : Str → Option Value} {base : Heap} {CT CI CL : Addr}
/-! ### _law_plain -/
def spPlain (K : PySem.W.Frag) (n : Nat) : Sp := fun vs H Q _ => ∃ (v : V) (d : PyData), vs = [v] ∧ Dp K H v d ∧ okD n d ∧ ∀ H' v', Same H H' → NewD K H H' v' (plainD d) → Q v' H'
/-- what its own calls are promised: data a level less deep -/
def spPlainLt (K : PySem.W.Frag) (n : Nat) : Sp := fun vs H Q E => ∃ m, n = m + 1 ∧ spPlain K m vs H Q E
abbrev s__law_plain : Stmt := topS 14
theorem sc__law_plain : FnScope ["value", "item"] ["value"] (defScope s__law_plain) := ⟨rfl, rfl, rfl, by decide +kernel, rfl, by decide +kernel, by decide +kernel⟩
theorem ok_plain {n : Nat} {f : Addr} {fd : FuncData} (F : Fun K "_law_plain" "_law_plain" s__law_plain f fd) (T : Tx mg) (C__law_plain : C8.Cal P w K mg base n "_law_plain" (spPlainLt K n) []) : FnOk P w K mg base CX0 (n + 1) f fd ["value"] (spPlain K n) := by
  refine F.ok sc__law_plain (fun vs H Q E h => ?_) (fun cdv A outer s H vs Q E hr h => ?_)
  · obtain ⟨v, d, rfl, _⟩ := h
    rfl
  · obtain ⟨v, d, rfl, hd, ho, q⟩ := h
    refine ⟨_, (pss_cons (ps_if (pt_val (pe_callB call_isiT rfl T.n_isinstance (by decide +kernel) (pa_cons (pv 0) (pa_cons (pe_tup (pa_cons (pe_bltn (v := .ty "tuple") (u := .type "tuple") rfl T.n_tuple (by decide +kernel) rfl) (pa_cons (pe_bltn (v := .ty "list") (u := .type "list") rfl T.n_list (by decide +kernel) rfl) pa_nil))) pa_nil))))
      (pss_one (ps_ret (pe_op op_cat (pe_lst (pa_cons (pe_callB call_isi rfl T.n_isinstance (by decide +kernel) (pa_cons (pv 0) (pa_cons (pe_bltn (v := .ty "list") (u := .type "list") rfl T.n_list (by decide +kernel) rfl) pa_nil))) pa_nil)) (pe_lc (own := [("item", 1)]) rfl sc__law_plain.nd (pi_seq (pv 0)) (blkOk_by (own := [("item", 1)]) (N := ["value", "item"]) (sc := defScope s__law_plain) (by decide +kernel)) (fun _ _ _ _ _ => (pg_name (i := 1) sc__law_plain.nd rfl (.inl rfl))) (fun _ _ _ _ _ => pts_nil) (fun _ _ _ _ _ => (C8.pe_c C__law_plain hr (by omega) rfl (pa_cons (pv 1) pa_nil)))))))
      pss_nil)
    (pss_cons (ps_if (PW.pt (pw_or (pt_cmpR op_isN (pv 0) pe_non (nomark _)) (pw_or1 (pt_val (pe_callB call_isi rfl T.n_isinstance (by decide +kernel) (pa_cons (pv 0) (pa_cons (pe_bltn (v := .ty "bool") (u := .type "bool") rfl T.n_bool (by decide +kernel) rfl) pa_nil)))))))
      (pss_one (ps_ret (pe_ix ix_list (pe_lst (pa_cons pe_str (pa_cons pe_str (pa_cons pe_str pa_nil)))) (pe_op op_add (pe_callTy call_int1 rfl T.n_int (by decide +kernel) (pa_cons (pe_cmpR op_notN (pv 0) pe_non (nomark _)) pa_nil)) (pe_callTy call_int1 rfl T.n_int (by decide +kernel) (pa_cons (pe_cmpR op_isB (pv 0) pe_bl (nomark _)) pa_nil))) (fun _ _ => rfl))))
      pss_nil)
    (pss_cons (ps_if (pt_val (pe_callB call_isiT rfl T.n_isinstance (by decide +kernel) (pa_cons (pv 0) (pa_cons (pe_tup (pa_cons (pe_bltn (v := .ty "int") (u := .type "int") rfl T.n_int (by decide +kernel) rfl) (pa_cons (pe_bltn (v := .ty "str") (u := .type "str") rfl T.n_str (by decide +kernel) rfl) pa_nil))) pa_nil))))
      (pss_one (ps_ret (pe_lst (pa_cons (pe_callB call_isi rfl T.n_isinstance (by decide +kernel) (pa_cons (pv 0) (pa_cons (pe_bltn (v := .ty "str") (u := .type "str") rfl T.n_str (by decide +kernel) rfl) pa_nil))) (pa_cons (pv 0) pa_nil)))))
      pss_nil)
    (pss_one (ps_ret pe_str))))), ?_⟩
    refine ⟨_, rfl, by show 2 ≤ sizeLine; decide, fun p np => ?_⟩
    have s0 : Same H (upd H p (.tup [.ty "tuple", .ty "list"])) := same_upd np
    cases d with
    | none =>
      cases hd
      refine ⟨.non, p, _, .type "NoneType", _, false, rfl, upd_same, .cons (.ty _) (.cons (.ty _) .nil), .base .non, kit2 (r1 := false) (r2 := false) (by decide +kernel) (by decide +kernel), _, rfl, iteF ?_⟩
      refine ⟨_, rfl, rfl, _, rfl, iteT ?_⟩
      refine ⟨by show 3 ≤ sizeLine; decide, fun l nl => ⟨_, rfl, rfl, .inr ⟨_, rfl, _, rfl, _, rfl, .inl rfl, .inr ⟨_, rfl, _, _, rfl, rfl, l, _, _, .str "None", rfl, rfl, .inl (.inl upd_same), rfl, ?_⟩⟩⟩⟩
      exact q _ _ (s0.trans (same_upd nl)) fun H2 _ => .str _
    | bool b =>
      cases hd
      refine ⟨.bl b, p, _, .type "bool", _, false, rfl, upd_same, .cons (.ty _) (.cons (.ty _) .nil), .base (.bl b), kit2 (r1 := false) (r2 := false) (by decide +kernel) (by decide +kernel), _, rfl, iteF ?_⟩
      refine ⟨_, rfl, rfl, _, rfl, iteF ⟨_, rfl, .bl b, _, .type "bool", _, true, rfl, .ty _, .base (.bl b), kit_ty (by decide +kernel), _, rfl, iteT ?_⟩⟩
      refine ⟨by show 3 ≤ sizeLine; decide, fun l nl => ⟨_, rfl, rfl, .inr ⟨_, rfl, _, rfl, _, rfl, .inr ⟨b, rfl⟩, .inr ⟨_, rfl, _, _, rfl, rfl, l, _, _, .str (if b = true then "True" else "False"), rfl, rfl, .inl (.inl upd_same), (by cases b <;> rfl), ?_⟩⟩⟩⟩
      refine q _ _ (s0.trans (same_upd nl)) fun H2 _ => ?_
      rw [plainD]
      exact .str _
    | int i =>
      cases hd
      refine ⟨.int i, p, _, .type "int", _, false, rfl, upd_same, .cons (.ty _) (.cons (.ty _) .nil), .base (.int i), kit2 (r1 := false) (r2 := false) (by decide +kernel) (by decide +kernel), _, rfl, iteF ?_⟩
      refine ⟨_, rfl, rfl, _, rfl, iteF ⟨_, rfl, .int i, _, .type "int", _, false, rfl, .ty _, .base (.int i), kit_ty (by decide +kernel), _, rfl, iteF ?_⟩⟩
      refine ⟨_, rfl, by show 2 ≤ sizeLine; decide, fun p2 np2 => ?_⟩
      refine ⟨.int i, p2, _, .type "int", _, true, rfl, upd_same, .cons (.ty _) (.cons (.ty _) .nil), .base (.int i), kit2 (r1 := true) (r2 := false) (by decide +kernel) (by decide +kernel), _, rfl, iteT ?_⟩
      refine ⟨_, rfl, .int i, _, .type "int", _, false, rfl, .ty _, .base (.int i), kit_ty (by decide +kernel), _, rfl, by show 2 ≤ sizeLine; decide, fun l nl => ?_⟩
      refine q _ _ ((s0.trans (same_upd np2)).trans (same_upd nl)) fun H2 k => ?_
      exact .lst (.inl (.inl (k l _ upd_same ((s0.trans (same_upd np2)).free nl)))) (.cons (.bl _) (.cons (.int i) .nil))
    | str x =>
      cases hd
      refine ⟨.str x, p, _, .type "str", _, false, rfl, upd_same, .cons (.ty _) (.cons (.ty _) .nil), .base (.str x), kit2 (r1 := false) (r2 := false) (by decide +kernel) (by decide +kernel), _, rfl, iteF ?_⟩
      refine ⟨_, rfl, rfl, _, rfl, iteF ⟨_, rfl, .str x, _, .type "str", _, false, rfl, .ty _, .base (.str x), kit_ty (by decide +kernel), _, rfl, iteF ?_⟩⟩
      refine ⟨_, rfl, by show 2 ≤ sizeLine; decide, fun p2 np2 => ?_⟩
      refine ⟨.str x, p2, _, .type "str", _, true, rfl, upd_same, .cons (.ty _) (.cons (.ty _) .nil), .base (.str x), kit2 (r1 := false) (r2 := true) (by decide +kernel) (by decide +kernel), _, rfl, iteT ?_⟩
      refine ⟨_, rfl, .str x, _, .type "str", _, true, rfl, .ty _, .base (.str x), kit_ty (by decide +kernel), _, rfl, by show 2 ≤ sizeLine; decide, fun l nl => ?_⟩
      refine q _ _ ((s0.trans (same_upd np2)).trans (same_upd nl)) fun H2 k => ?_
      exact .lst (.inl (.inl (k l _ upd_same ((s0.trans (same_upd np2)).free nl)))) (.cons (.bl _) (.cons (.str x) .nil))
    | dict kvs => cases hd
    | list ds =>
      cases hd with
      | @lst a xs _ h1 h2 =>
      have hlen := dpAll_len h2
      obtain ⟨m, rfl⟩ : ∃ m, n = m + 1 := by
        cases n with
        | zero => exact False.elim ho
        | succ m => exact ⟨m, rfl⟩
      obtain ⟨o1, o2⟩ := (show ds.length ≤ 50000 ∧ ∀ x ∈ ds, okD m x from ho)
      refine ⟨.ref a, p, _, .type "list", _, true, rfl, upd_same, .cons (.ty _) (.cons (.ty _) .nil), tyL (s0.seq h1), kit2 (r1 := false) (r2 := true) (by decide +kernel) (by decide +kernel), _, rfl, iteT ?_⟩
      refine ⟨_, rfl, .ref a, _, .type "list", _, true, rfl, .ty _, tyL (s0.seq h1), kit_ty (by decide +kernel), by show 1 ≤ sizeLine; decide, fun l nl => ?_⟩
      have s1 := s0.trans (same_upd (o := HO.lst [V.bl true]) nl)
      refine ⟨_, rfl, a, rfl, .inl ⟨⟨xs, s1.seq h1⟩, fun D nD => ?_⟩⟩
      have nlD : l ≠ D := ne_of_none upd_same nD
      have nD0 : H D = none := s1.free nD
      refine lc_list (xs := xs) (fun i H3 => ∃ vs : List V, H3 D = some (.lst vs) ∧ vs.length = i ∧ Same H H3 ∧ H3 l = some (.lst [.bl true]) ∧ NewAll K H D H3 vs (plainAll (ds.take i))) ?_ ?_ ?_ ?_
      · exact ⟨[], upd_same, rfl, s1.trans (same_upd nD), by rw [upd_ne nlD, upd_same], fun _ _ => .nil⟩
      · rintro i H3 _ ⟨vs, _, _, s3, _⟩
        exact s3.seq h1
      · rintro i x H3 hx ⟨vs, hD, hvl, s3, h3l, hn⟩
        obtain ⟨dx, hdx, hxx⟩ := dpAll_get h2 i x hx
        refine ⟨rfl, _, rfl, m, rfl, x, dx, rfl, dp_mono s3 _ _ hxx, o2 dx (List.mem_of_getElem? hdx), fun H4 v' s4 n4 => ?_⟩
        refine ⟨vs, s4 _ _ hD, szl (by have := (List.getElem?_eq_some_iff.mp hx).1; omega), vs ++ [v'], upd_same, by rw [List.length_append, hvl]; rfl, same_mut (s3.trans s4) nD0, by rw [upd_ne nlD]; exact s4 _ _ h3l, ?_⟩
        rw [List.take_add_one, hdx, plainAll_map, List.map_append, ← plainAll_map]
        exact hn.snoc s3 hD s4 n4
      · rintro H3 ⟨vs, hD, hvl, s3, h3l, hn⟩
        refine ⟨l, D, _, _, rfl, rfl, h3l, hD, szL (by show 1 + vs.length ≤ 100000; omega), fun r nr => ?_⟩
        refine q _ _ (s3.trans (same_upd nr)) fun H4 k => ?_
        rw [plainD]
        rw [show plainAll ds = plainAll (ds.take xs.length) by rw [List.take_of_length_le (by omega)]]
        refine .lst (.inl (.inl (k r _ upd_same (s3.free nr)))) (.cons (.bl _) (hn H4 fun b o e n0 nb => k b o (same_upd nr b o e) n0))
    | tuple ds =>
      cases hd with
      | @tup a xs _ h1 h2 =>
      have hlen := dpAll_len h2
      obtain ⟨m, rfl⟩ : ∃ m, n = m + 1 := by
        cases n with
        | zero => exact False.elim ho
        | succ m => exact ⟨m, rfl⟩
      obtain ⟨o1, o2⟩ := (show ds.length ≤ 50000 ∧ ∀ x ∈ ds, okD m x from ho)
      refine ⟨.ref a, p, _, .type "tuple", _, true, rfl, upd_same, .cons (.ty _) (.cons (.ty _) .nil), tyT (Same.tup s0 h1), kit2 (r1 := true) (r2 := false) (by decide +kernel) (by decide +kernel), _, rfl, iteT ?_⟩
      refine ⟨_, rfl, .ref a, _, .type "tuple", _, false, rfl, .ty _, tyT (Same.tup s0 h1), kit_ty (by decide +kernel), by show 1 ≤ sizeLine; decide, fun l nl => ?_⟩
      have s1 := s0.trans (same_upd (o := HO.lst [V.bl false]) nl)
      refine ⟨_, rfl, a, rfl, .inr ⟨⟨xs, Same.tup s1 h1⟩, fun D nD => ?_⟩⟩
      have nlD : l ≠ D := ne_of_none upd_same nD
      have nD0 : H D = none := s1.free nD
      refine lc_tup (xs := xs) (fun i H3 => ∃ vs : List V, H3 D = some (.lst vs) ∧ vs.length = i ∧ Same H H3 ∧ H3 l = some (.lst [.bl false]) ∧ NewAll K H D H3 vs (plainAll (ds.take i))) ?_ ?_ ?_ ?_
      · exact ⟨[], upd_same, rfl, s1.trans (same_upd nD), by rw [upd_ne nlD, upd_same], fun _ _ => .nil⟩
      · rintro i H3 _ ⟨vs, _, _, s3, _⟩
        exact Same.tup s3 h1
      · rintro i x H3 hx ⟨vs, hD, hvl, s3, h3l, hn⟩
        obtain ⟨dx, hdx, hxx⟩ := dpAll_get h2 i x hx
        refine ⟨rfl, _, rfl, m, rfl, x, dx, rfl, dp_mono s3 _ _ hxx, o2 dx (List.mem_of_getElem? hdx), fun H4 v' s4 n4 => ?_⟩
        refine ⟨vs, s4 _ _ hD, szl (by have := (List.getElem?_eq_some_iff.mp hx).1; omega), vs ++ [v'], upd_same, by rw [List.length_append, hvl]; rfl, same_mut (s3.trans s4) nD0, by rw [upd_ne nlD]; exact s4 _ _ h3l, ?_⟩
        rw [List.take_add_one, hdx, plainAll_map, List.map_append, ← plainAll_map]
        exact hn.snoc s3 hD s4 n4
      · rintro H3 ⟨vs, hD, hvl, s3, h3l, hn⟩
        refine ⟨l, D, _, _, rfl, rfl, h3l, hD, szL (by show 1 + vs.length ≤ 100000; omega), fun r nr => ?_⟩
        refine q _ _ (s3.trans (same_upd nr)) fun H4 k => ?_
        rw [plainD]
        rw [show plainAll ds = plainAll (ds.take xs.length) by rw [List.take_of_length_le (by omega)]]
        refine .lst (.inl (.inl (k r _ upd_same (s3.free nr)))) (.cons (.bl _) (hn H4 fun b o e n0 nb => k b o (same_upd nr b o e) n0))
theorem cal_plain {f : Addr} {fd : FuncData} (F : Fun K "_law_plain" "_law_plain" s__law_plain f fd) (T : Tx mg) (hm : mg "_law_plain" = some (.ref f)) (b : Binds K fd ["value"] []) : ∀ n, C8.Cal P w K mg base n "_law_plain" (spPlainLt K n) []
  | 0 => ⟨f, fd, ["value"], [], ⟨fun _ _ _ _ h => (by obtain ⟨m, e, _⟩ := h; omega), fun _ _ _ _ _ _ _ _ _ _ _ _ _ h => (by obtain ⟨m, e, _⟩ := h; omega)⟩, hm, F.kp, b, .nil⟩
  | n + 1 => ⟨f, fd, ["value"], [], (ok_plain F T (cal_plain F T hm b n)).imp (fun vs H Q E h => by obtain ⟨m, e, h⟩ := h; cases e; exact h), hm, F.kp, b, .nil⟩
/-! ### _law_spoil -/
/-- data without lists, at most n levels deep -/
def okF : Nat → PyData → Prop
  | _, .none => True
  | _, .bool _ => True
  | _, .int _ => True
  | _, .str _ => True
  | n + 1, .tuple xs => xs.length ≤ 50000 ∧ ∀ x ∈ xs, okF n x
  | _, _ => False
/-- without lists nothing changes; a list of what has no lists gets 77 -/
def spSpoil (K : PySem.W.Frag) (n : Nat) : Sp := fun vs H Q _ => ∃ v : V, vs = [v] ∧ ((∃ d, Dp K H v d ∧ okF n d ∧ ∀ H', Same H H' → Q .non H') ∨
  (∃ a xs ds m, n = m + 1 ∧ v = .ref a ∧ H a = some (.lst xs) ∧ DpAll K H xs ds ∧ (∀ d ∈ ds, okF m d) ∧ xs.length ≤ 50000 ∧ ∀ H', Kp a H H' → H' a = some (.lst (xs ++ [.int 77])) → Q .non H'))
def spSpoilLt (K : PySem.W.Frag) (n : Nat) : Sp := fun vs H Q E => ∃ m, n = m + 1 ∧ spSpoil K m vs H Q E
theorem tyF {H : Hp} {n : Nat} {v : V} {d : PyData} (hd : Dp K H v d) (ho : okF n d) : ∃ t : String, TyX K H v (.type t) ∧ kitB t "list" = some false := by
  cases d with
  | none => cases hd; exact ⟨_, .base .non, by decide +kernel⟩
  | bool b => cases hd; exact ⟨_, .base (.bl b), by decide +kernel⟩
  | int i => cases hd; exact ⟨_, .base (.int i), by decide +kernel⟩
  | str x => cases hd; exact ⟨_, .base (.str x), by decide +kernel⟩
  | dict kvs => cases hd
  | list ds => cases n <;> exact False.elim ho
  | tuple ds =>
    cases hd with
    | @tup a xs _ h1 h2 => exact ⟨_, tyT h1, by decide +kernel⟩
abbrev s__law_spoil : Stmt := topS 15
theorem sc__law_spoil : FnScope ["value", "item"] ["value"] (defScope s__law_spoil) := ⟨rfl, rfl, rfl, by decide +kernel, rfl, by decide +kernel, by decide +kernel⟩
theorem ok_spoil {n : Nat} {f : Addr} {fd : FuncData} (F : Fun K "_law_spoil" "_law_spoil" s__law_spoil f fd) (T : Tx mg) (C__law_spoil : C8.Cal P w K mg base n "_law_spoil" (spSpoilLt K n) []) : FnOk P w K mg base CX0 (n + 1) f fd ["value"] (spSpoil K n) := by
  refine F.ok sc__law_spoil (fun vs H Q E h => ?_) (fun cdv A outer s H vs Q E hr h => ?_)
  · obtain ⟨v, rfl, _⟩ := h
    rfl
  · obtain ⟨v, rfl, h⟩ := h
    refine ⟨_, (C8.pss_cut (ps_if (pt_val (pe_callB call_isiT rfl T.n_isinstance (by decide +kernel) (pa_cons (pv 0) (pa_cons (pe_tup (pa_cons (pe_bltn (v := .ty "list") (u := .type "list") rfl T.n_list (by decide +kernel) rfl) (pa_cons (pe_bltn (v := .ty "tuple") (u := .type "tuple") rfl T.n_tuple (by decide +kernel) rfl) pa_nil))) pa_nil))))
      (pss_one (ps_for PassesOwn.never rfl (pi_seq (pv 0)) (pg_name (i := 1) sc__law_spoil.nd rfl (.inl rfl))
        (pss_one (ps_expr (C8.pe_c C__law_spoil hr (by omega) rfl (pa_cons (pv 1) pa_nil))))))
      pss_nil)
    (pss_one (ps_if (pt_val (pe_callB call_isi rfl T.n_isinstance (by decide +kernel) (pa_cons (pv 0) (pa_cons (pe_bltn (v := .ty "list") (u := .type "list") rfl T.n_list (by decide +kernel) rfl) pa_nil))))
      (pss_one (ps_expr (pe_bm PySem.F.plainAttrs_list PySem.F.slot_list_append PySem.F.type_list_append mt_append (pv 0) (pa_cons pe_int pa_nil))))
      pss_nil))), ?_⟩
    rcases h with ⟨d, hd, ho, q⟩ | ⟨a, xs, ds, m, rfl, rfl, ha, hds, ho, hl, q⟩
    · -- nothing changes
      refine ⟨fun σ' H' => ∃ y : Option V, σ' = [some v, y] ∧ Same H H', ?_, ?_⟩
      · refine ⟨_, rfl, by show 2 ≤ sizeLine; decide, fun p np => ?_⟩
        have s0 : Same H (upd H p (.tup [.ty "list", .ty "tuple"])) := same_upd np
        cases d with
        | none =>
          cases hd
          exact ⟨.non, p, _, .type "NoneType", _, false, rfl, upd_same, .cons (.ty _) (.cons (.ty _) .nil), .base .non, kit2 (r1 := false) (r2 := false) (by decide +kernel) (by decide +kernel), _, rfl, iteF ⟨_, rfl, s0⟩⟩
        | bool b =>
          cases hd
          exact ⟨.bl b, p, _, .type "bool", _, false, rfl, upd_same, .cons (.ty _) (.cons (.ty _) .nil), .base (.bl b), kit2 (r1 := false) (r2 := false) (by decide +kernel) (by decide +kernel), _, rfl, iteF ⟨_, rfl, s0⟩⟩
        | int i =>
          cases hd
          exact ⟨.int i, p, _, .type "int", _, false, rfl, upd_same, .cons (.ty _) (.cons (.ty _) .nil), .base (.int i), kit2 (r1 := false) (r2 := false) (by decide +kernel) (by decide +kernel), _, rfl, iteF ⟨_, rfl, s0⟩⟩
        | str x =>
          cases hd
          exact ⟨.str x, p, _, .type "str", _, false, rfl, upd_same, .cons (.ty _) (.cons (.ty _) .nil), .base (.str x), kit2 (r1 := false) (r2 := false) (by decide +kernel) (by decide +kernel), _, rfl, iteF ⟨_, rfl, s0⟩⟩
        | dict kvs => cases hd
        | list ds => cases n <;> exact False.elim ho
        | tuple ds =>
          cases hd with
          | @tup a xs _ h1 h2 =>
          have hlen := dpAll_len h2
          obtain ⟨m, rfl⟩ : ∃ m, n = m + 1 := by
            cases n with
            | zero => exact False.elim ho
            | succ m => exact ⟨m, rfl⟩
          obtain ⟨o1, o2⟩ := (show ds.length ≤ 50000 ∧ ∀ x ∈ ds, okF m x from ho)
          refine ⟨.ref a, p, _, .type "tuple", _, true, rfl, upd_same, .cons (.ty _) (.cons (.ty _) .nil), tyT (Same.tup s0 h1), kit2 (r1 := false) (r2 := true) (by decide +kernel) (by decide +kernel), _, rfl, iteT ?_⟩
          refine ⟨_, rfl, a, rfl, .inr ⟨⟨xs, Same.tup s0 h1⟩, ?_⟩⟩
          refine for_tup (xs := xs) (fun i σ' H3 => ∃ y : Option V, σ' = [some (.ref a), y] ∧ Same H H3) ⟨_, rfl, s0⟩ ?_ ?_ ?_
          · rintro i σ' H3 _ ⟨_, _, s3⟩
            exact Same.tup s3 h1
          · rintro i x σ' H3 hx ⟨y, rfl, s3⟩
            obtain ⟨dx, hdx, hxx⟩ := dpAll_get h2 i x hx
            exact ⟨_, rfl, m, rfl, x, rfl, .inl ⟨dx, dp_mono s3 _ _ hxx, o2 dx (List.mem_of_getElem? hdx), fun H4 s4 => ⟨_, rfl, s3.trans s4⟩⟩⟩
          · rintro σ' H3 ⟨y, rfl, s3⟩
            exact ⟨_, rfl, s3⟩
      · rintro σ' H' ⟨y, rfl, sm⟩
        obtain ⟨t, ht, hk⟩ := tyF (dp_mono sm _ _ hd) ho
        exact ⟨_, rfl, v, _, _, _, false, rfl, .ty _, ht, kit_ty hk, _, rfl, iteF (q _ sm)⟩
    · refine ⟨fun σ' H' => ∃ y : Option V, σ' = [some (.ref a), y] ∧ Same H H', ?_, ?_⟩
      · refine ⟨_, rfl, by show 2 ≤ sizeLine; decide, fun p np => ?_⟩
        have s0 : Same H (upd H p (.tup [.ty "list", .ty "tuple"])) := same_upd np
        refine ⟨.ref a, p, _, .type "list", _, true, rfl, upd_same, .cons (.ty _) (.cons (.ty _) .nil), tyL (s0.seq (.inl (.inl ha))), kit2 (r1 := true) (r2 := false) (by decide +kernel) (by decide +kernel), _, rfl, iteT ?_⟩
        refine ⟨_, rfl, a, rfl, .inl ⟨⟨xs, s0.seq (.inl (.inl ha))⟩, ?_⟩⟩
        refine for_list (xs := xs) (fun i σ' H3 => ∃ y : Option V, σ' = [some (.ref a), y] ∧ Same H H3) ⟨_, rfl, s0⟩ ?_ ?_ ?_
        · rintro i σ' H3 _ ⟨_, _, s3⟩
          exact .inl (.inl (s3 _ _ ha))
        · rintro i x σ' H3 hx ⟨y, rfl, s3⟩
          obtain ⟨dx, hdx, hxx⟩ := dpAll_get hds i x hx
          exact ⟨_, rfl, m, rfl, x, rfl, .inl ⟨dx, dp_mono s3 _ _ hxx, ho dx (List.mem_of_getElem? hdx), fun H4 s4 => ⟨_, rfl, s3.trans s4⟩⟩⟩
        · rintro σ' H3 ⟨y, rfl, s3⟩
          exact ⟨_, rfl, s3⟩
      · rintro σ' H' ⟨y, rfl, sm⟩
        refine ⟨_, rfl, .ref a, _, .type "list", _, true, rfl, .ty _, tyL (.inl (.inl (sm _ _ ha))), kit_ty (by decide +kernel), _, rfl, iteT ?_⟩
        exact ⟨_, rfl, .inl ⟨rfl, _, .inl (.inl (sm _ _ ha))⟩, a, xs, _, rfl, rfl, sm _ _ ha, szl (by omega), q _ ((Kp.of sm).trans Kp.upd) upd_same⟩
theorem cal_spoil {f : Addr} {fd : FuncData} (F : Fun K "_law_spoil" "_law_spoil" s__law_spoil f fd) (T : Tx mg) (hm : mg "_law_spoil" = some (.ref f)) (b : Binds K fd ["value"] []) : ∀ n, C8.Cal P w K mg base n "_law_spoil" (spSpoilLt K n) []
  | 0 => ⟨f, fd, ["value"], [], ⟨fun _ _ _ _ h => (by obtain ⟨m, e, _⟩ := h; omega), fun _ _ _ _ _ _ _ _ _ _ _ _ _ h => (by obtain ⟨m, e, _⟩ := h; omega)⟩, hm, F.kp, b, .nil⟩
  | n + 1 => ⟨f, fd, ["value"], [], (ok_spoil F T (cal_spoil F T hm b n)).imp (fun vs H Q E h => by obtain ⟨m, e, h⟩ := h; cases e; exact h), hm, F.kp, b, .nil⟩
end
end K33
set_option Elab.async false
set_option linter.all false
set_option maxRecDepth 100000
set_option maxHeartbeats 4000000
namespace K33
open PySem PySem.Spec PyProof.Rows L2 Tw Tk
section
variable {P : Program} {w : World} {K : PySem.W.Frag} {mg : Str → Option Value} {base : Heap} {CT CI CL : Addr}
/-! ### _law_drawn -/
theorem NewAll.kp {K : PySem.W.Frag} {H H1 H2 : Hp} {a p : Addr} {vs : List V} {ds : List PyData} {o : HO} (h : NewAll K H a H1 vs ds) (k : Kp p H1 H2) (hp : H p = some o) : NewAll K H a H2 vs ds := fun H3 k3 =>
  h H3 fun b u e n0 nb => k3 b u (k b u e fun z => by rw [z, hp] at n0; cases n0) n0 nb
/-- what a turn draws -/
def WordOk (w : List Nat) (b : Bool) : Prop := (b = true ∧ w ≠ [] ∧ w.length ≤ 14 ∧ ∀ c ∈ w, c ∈ LET) ∨ (b = false ∧ ∃ c ∈ SGN, w = [c])
theorem word_in {w : List Nat} {b : Bool} (h : WordOk w b) : (!(!(Builtin.Str.occurrences (PySem.Str.ofString ".?,") (S w) 0 (PySem.Str.ofString ".?,").length 1).isEmpty)) = b := by
  have e : (PySem.Str.ofString ".?,") = S SGN := rfl
  rw [e]
  rcases h with ⟨rfl, hne, _, hL⟩ | ⟨rfl, c, hc, rfl⟩
  · rw [Bool.not_eq_true', Bool.eq_false_iff]
    intro q
    obtain ⟨i, h1, h2⟩ := (StrLaws.found_iff _ _).mp q
    rw [StrLaws.subAt_eq, beq_iff_eq, S_cps, S_cps] at h2
    cases w with
    | nil => exact hne rfl
    | cons x r =>
      have hx : x ∈ SGN := by
        have : x ∈ (SGN.drop i).take (S (x :: r)).length := by rw [h2]; simp
        exact List.mem_of_mem_drop (List.mem_of_mem_take this)
      have : ∀ c ∈ SGN, c ∉ LET := by decide
      exact this x hx (hL x (by simp))
  · have := StrLaws.found_one (S SGN) c
    rw [S_cps, decide_eq_true hc] at this
    show (!(!(Builtin.Str.occurrences (S SGN) ⟨#[c]⟩ 0 (S SGN).length 1).isEmpty)) = false
    rw [this]
    rfl
def spDrawn (K : PySem.W.Frag) : Sp := fun vs H Q _ => ∃ (p : Addr), vs = [.ref p] ∧ Deck H p ∧ ∀ H' t a (vs : List V) (l : List Nat), Kp p H H' → Deck H' p → H' t = some (.tup [.str (S l), .ref a]) → H' a = some (.lst vs) → DpAll K H' vs ((toks l).map tokD) → (∀ c ∈ l, Good c) → l.length ≤ 300 → Q (.ref t) H'
abbrev s__law_drawn : Stmt := topS 17
theorem sc__law_drawn : FnScope ["deck", "text", "found", "before", "turn", "word", "step", "letters", "gap"] ["deck"] (defScope s__law_drawn) := ⟨rfl, rfl, rfl, by decide +kernel, rfl, by decide +kernel, by decide +kernel⟩
theorem ok_drawn {f : Addr} {fd : FuncData} (F : Fun K "_law_drawn" "_law_drawn" s__law_drawn f fd) (T : Tx mg) (C__law_take : C8.Cal P w K mg base 1 "_law_take" spTake []) (C__law_gap : C8.Cal P w K mg base 2 "_law_gap" (spGap K) []) : FnOk P w K mg base CX0 3 f fd ["deck"] (spDrawn K) := by
  refine F.ok sc__law_drawn (fun vs H Q E h => ?_) (fun cdv A outer s H vs Q E hr h => ?_)
  · obtain ⟨p, rfl, _⟩ := h
    rfl
  · obtain ⟨p, rfl, hd0, q⟩ := h
    refine ⟨_, (pss_cons (ps_set (i := 1) sc__law_drawn.nd rfl (.inl rfl) (C8.pe_c C__law_gap hr (by omega) rfl (pa_cons (pv 0) (pa_cons pe_bl pa_nil))))
    (pss_cons (ps_set (i := 2) sc__law_drawn.nd rfl (.inl rfl) (pe_lst pa_nil))
    (pss_cons (ps_set (i := 3) sc__law_drawn.nd rfl (.inl rfl) pe_bl)
    (pss_cons (ps_for PassesOwn.never rfl (pi_range1 rfl T.n_range (pa_cons (C8.pe_c C__law_take hr (by omega) rfl (pa_cons (pv 0) (pa_cons pe_int pa_nil))) pa_nil)) (pg_name (i := 4) sc__law_drawn.nd rfl (.inl rfl))
      (C8.pss_cut (ps_if (pt_cmpR op_gt (C8.pe_c C__law_take hr (by omega) rfl (pa_cons (pv 0) (pa_cons pe_int pa_nil))) pe_int (nomark _))
        (pss_cons (ps_set (i := 5) sc__law_drawn.nd rfl (.inl rfl) pe_str)
        (pss_one (ps_for PassesOwn.never rfl (pi_range1 rfl T.n_range (pa_cons (pe_op op_add pe_int (C8.pe_c C__law_take hr (by omega) rfl (pa_cons (pv 0) (pa_cons pe_int pa_nil)))) pa_nil)) (pg_name (i := 6) sc__law_drawn.nd rfl (.inl rfl))
          (pss_one (ps_set (i := 5) sc__law_drawn.nd rfl (.inl rfl) (pe_op op_add_str (pv 5) (pe_ix ix_str pe_str (C8.pe_c C__law_take hr (by omega) rfl (pa_cons (pv 0) (pa_cons pe_int pa_nil))) (fun _ _ => rfl))))))))
        (pss_one (ps_set (i := 5) sc__law_drawn.nd rfl (.inl rfl) (pe_ix ix_str pe_str (C8.pe_c C__law_take hr (by omega) rfl (pa_cons (pv 0) (pa_cons pe_int pa_nil))) (fun _ _ => rfl)))))
      (pss_cons (ps_set (i := 7) sc__law_drawn.nd rfl (.inl rfl) (pe_cmpR op_notin_str (pv 5) pe_str (by rfl)))
      (pss_cons (ps_set (i := 8) sc__law_drawn.nd rfl (.inl rfl) (pe_ifExp (pt_cmpR op_gt (pv 4) pe_int (nomark _)) (C8.pe_c C__law_gap hr (by omega) rfl (pa_cons (pv 0) (pa_cons (pe_and (pv 3) (pe_one (pv 7))) pa_nil))) pe_str))
      (pss_cons (ps_set (i := 1) sc__law_drawn.nd rfl (.inl rfl) (pe_op op_add_str (pv 1) (pv 8)))
      (pss_cons (ps_expr (pe_bm PySem.F.plainAttrs_list PySem.F.slot_list_append PySem.F.type_list_append mt_append (pv 2) (pa_cons (pe_tup (pa_cons (pv 5) (pa_cons (pe_op op_add pe_int (pe_bm PySem.F.plainAttrs_str PySem.F.slot_str_count PySem.F.type_str_count mt_count (pv 1) (pa_cons pe_str pa_nil))) (pa_cons (pe_op op_add (pe_op op_sub (pe_callB call_len_str rfl T.n_len (by decide +kernel) (pa_cons (pv 1) pa_nil)) (pe_op op_add (pe_bm PySem.F.plainAttrs_str PySem.F.slot_str_rfind PySem.F.type_str_rfind mt_rfind (pv 1) (pa_cons pe_str pa_nil)) pe_int)) pe_int) pa_nil)))) pa_nil)))
      (pss_cons (ps_set (i := 1) sc__law_drawn.nd rfl (.inl rfl) (pe_op op_add_str (pv 1) (pv 5)))
      (pss_one (ps_set (i := 3) sc__law_drawn.nd rfl (.inl rfl) (pv 7))))))))))
    (pss_one (ps_ret (pe_tup (pa_cons (pe_op op_add_str (pv 1) (C8.pe_c C__law_gap hr (by omega) rfl (pa_cons (pv 0) (pa_cons pe_bl pa_nil)))) (pa_cons (pv 2) pa_nil))))))))), ?_⟩
    have hp0 : ∃ o, H p = some o := let ⟨_, a, _⟩ := hd0; ⟨_, a⟩
    obtain ⟨o0, hp0⟩ := hp0
    -- text = _law_gap(deck, False)
    refine ⟨_, rfl, p, false, rfl, hd0, fun H1 g0 k1 hd1 g0ok _ => ?_⟩
    refine ⟨by show 0 ≤ sizeLine; decide, fun a na => ?_⟩
    have na0 : H a = none := by
      cases e : H a with
      | none => rfl
      | some o =>
        by_cases z : a = p
        · obtain ⟨_, y, _⟩ := hd1
          rw [z, y] at na
          cases na
        · rw [k1 a o e z] at na
          cases na
    have nap : p ≠ a := fun z => by rw [← z, hp0] at na0; cases na0
    have hdk : ∀ {H1 H2 : Hp}, Same H1 H2 → Deck H1 p → Deck H2 p := fun s d => let ⟨ds, a, b⟩ := d; ⟨ds, s _ _ a, b⟩
    have hdn : ∀ {H1 : Hp} {o : HO}, Deck H1 p → Deck (upd H1 a o) p := fun d => let ⟨ds, x, b⟩ := d; ⟨ds, by rw [upd_ne nap]; exact x, b⟩
    -- for turn in range(_law_take(deck, 12))
    refine ⟨_, rfl, p, 12, rfl, by decide, hdn hd1, fun H2 n k2 hd2 n0 n1 => ⟨n, rfl, by omega, by omega, ?_⟩⟩
    refine for_range (lo := 0) (n := n.toNat) (fun i σ H' => ∃ (l : List Nat) (ts : List T3) (b : Bool) (vs : List V) (y4 y5 y6 y7 y8 : Option V), σ = [some (.ref p), some (.str (S l)), some (.ref a), some (.bl b), y4, y5, y6, y7, y8] ∧ Kp p H H' ∧ Deck H' p ∧
      H' a = some (.lst vs) ∧ NewAll K H a H' vs (ts.map tokD) ∧ Told l ts b ∧ l.length ≤ 4 + i * 19 ∧ ts.length ≤ i ∧ (i = 0 → b = false)) ?_ ?_ ?_
    · refine ⟨g0, [], false, [], none, none, none, none, none, rfl, (k1.trans (Kp.of (same_upd na))).trans k2, hd2, k2 a _ upd_same (Ne.symm nap), fun _ _ => .nil, Told.first g0ok.1, by have := g0ok.2; omega, Nat.zero_le _, fun _ => rfl⟩
    · rintro i σ H3 hi ⟨l, ts, b, vs, y4, y5, y6, y7, y8, rfl, k3, hd3, ha3, nw3, td, hl, hts, hb0⟩
      refine ⟨fun σ' H' => ∃ (w : List Nat) (wb : Bool) (z6 : Option V), σ' = [some (.ref p), some (.str (S l)), some (.ref a), some (.bl b), some (.int (0 + (i : Nat))), some (.str (S w)), z6, y7, y8] ∧ Kp p H3 H' ∧ Deck H' p ∧ WordOk w wb, ?_, ?_⟩
      · refine ⟨_, rfl, p, 3, rfl, by decide, hd3, fun H4 x k4 hd4 x0 x1 => ⟨_, _, rfl, rfl, _, rfl, ite2 (fun _ => ?_) (fun _ => ?_)⟩⟩
        · refine ⟨_, rfl, p, 14, rfl, by decide, hd4, fun H5 m k5 hd5 m0 m1 => ⟨_, _, rfl, rfl, _, rfl, by omega, by omega, ?_⟩⟩
          refine for_range (lo := 0) (n := (1 + m).toNat) (fun j σ H' => ∃ (w : List Nat) (z6 : Option V), σ = [some (.ref p), some (.str (S l)), some (.ref a), some (.bl b), some (.int (0 + (i : Nat))), some (.str (S w)), z6, y7, y8] ∧ Kp p H3 H' ∧ Deck H' p ∧ w.length = j ∧ ∀ c ∈ w, c ∈ LET) ?_ ?_ ?_
          · exact ⟨[], _, rfl, k4.trans k5, hd5, rfl, by simp⟩
          · rintro j σ H6 hj ⟨w, z6, rfl, k6, hd6, hw, hwL⟩
            refine ⟨_, rfl, _, rfl, p, 26, rfl, by decide, hd6, fun H7 r k7 hd7 r0 r1 => ?_⟩
            have hc : LET[r.toNat]? = some (LET[r.toNat]'(by show r.toNat < 26; omega)) := List.getElem?_eq_getElem _
            refine ⟨_, r, _, rfl, rfl, by decide +kernel, atI_ofNat r0 hc, _, _, rfl, rfl, by rw [S_len]; exact szL (by show w.length + 1 ≤ 100000; omega), w ++ [LET[r.toNat]'(by show r.toNat < 26; omega)], _, by rw [S_add1]; rfl, k6.trans k7, hd7, by rw [List.length_append, hw]; rfl, fun c hc => ?_⟩
            rcases List.mem_append.mp hc with z | z
            · exact hwL c z
            · rw [List.mem_singleton.mp z]; exact List.getElem_mem _
          · rintro σ H6 ⟨w, z6, rfl, k6, hd6, hw, hwL⟩
            exact ⟨w, true, _, rfl, k6, hd6, .inl ⟨rfl, fun z => by rw [z] at hw; simp at hw; omega, by omega, hwL⟩⟩
        · refine ⟨_, rfl, p, 3, rfl, by decide, hd4, fun H5 r k5 hd5 r0 r1 => ?_⟩
          have hc : SGN[r.toNat]? = some (SGN[r.toNat]'(by show r.toNat < 3; omega)) := List.getElem?_eq_getElem _
          exact ⟨_, r, _, rfl, rfl, by decide +kernel, atI_ofNat r0 hc, [SGN[r.toNat]'(by show r.toNat < 3; omega)], false, _, rfl, k4.trans k5, hd5, .inr ⟨rfl, _, List.getElem_mem _, rfl⟩⟩
      · rintro σ' H4 ⟨w, wb, z6, rfl, k4, hd4, hw⟩
        refine ⟨_, rfl, _, _, rfl, rfl, ?_⟩
        rw [word_in hw]
        have ha4 := k4 a _ ha3 (Ne.symm nap)
        have nw4 := NewAll.kp nw3 k4 hp0
        have hwl : w.length ≤ 14 := by
          rcases hw with ⟨_, _, h, _⟩ | ⟨_, c, _, rfl⟩
          · exact h
          · simp
        have vl : vs.length = ts.length := by
          have := dpAll_len (nw3 H3 fun b o e _ _ => e)
          rw [List.length_map] at this
          exact this
        refine ⟨_, rfl, _, _, rfl, rfl, _, rfl, ite2 (fun e => ?_) (fun e => ?_)⟩
        · refine ⟨_, rfl, _, rfl, b, rfl, ?_⟩
          cases b with
          | true =>
            refine iteT ⟨_, rfl, p, wb, rfl, hd4, fun H5 g k5 hd5 gok' hn' => ?_⟩
            have gok := gok'.1
            have glen := gok'.2
            have hn : true = true → wb = true → g ≠ [] := fun _ z => hn' z
            have ha5 := k5 a _ ha4 (Ne.symm nap)
            have nw5 := NewAll.kp nw4 k5 hp0
            have kk := (k3.trans k4).trans k5
            refine ⟨_, rfl, _, rfl, _, _, rfl, rfl, by rw [S_len, S_len]; exact szL (by omega), ?_⟩
            rw [S_add]
            have lgl : (l ++ g).length = l.length + g.length := List.length_append
            have e1 : Txt.count (S (l ++ g)) (PySem.Str.ofString "\n") = ((l ++ g).count 10 : Nat) := count_S _
            have e2 : Txt.rfind (S (l ++ g)) (PySem.Str.ofString "\n") = ((l ++ g).length : Int) - tl (l ++ g) - 1 := rfind_S _
            refine ⟨_, rfl, .inl ⟨rfl, _, .inl (.inl ha5)⟩, _, rfl, _, rfl, rfl, _, _, rfl, rfl, _, _, rfl, rfl, ?_⟩
            refine ⟨_, rfl, S (l ++ g), rfl, szL (by rw [S_len]; omega), _, rfl, rfl, _, _, rfl, rfl, _, _, rfl, rfl, _, _, rfl, rfl, _, _, rfl, rfl, by show 3 ≤ sizeLine; decide, fun t nt => ?_⟩
            have hta : t ≠ a := fun z => by rw [z, ha5] at nt; cases nt
            refine ⟨a, vs, _, rfl, rfl, by rw [upd_ne (Ne.symm hta)]; exact ha5, szl (by omega), ?_⟩
            refine ⟨_, rfl, _, rfl, _, _, rfl, rfl, by rw [S_len, S_len]; exact szL (by omega), ?_⟩
            rw [S_add, e1, e2, S_len]
            have hnew : NewAll K H a (upd (upd H5 t (.tup [.str (S w), .int (1 + ((l ++ g).count 10 : Nat)), .int (((l ++ g).length : Int) - (((l ++ g).length : Int) - tl (l ++ g) - 1 + 1) + 1)])) a (.lst (vs ++ [.ref t]))) (vs ++ [.ref t]) ((ts ++ [(w, 1 + (l ++ g).count 10, tl (l ++ g) + 1)]).map tokD) := by
              rw [List.map_append]
              have kn : H t = none := by
                cases e : H t with
                | none => rfl
                | some o =>
                  by_cases z : t = p
                  · obtain ⟨_, y, _⟩ := hd5
                    rw [z, y] at nt
                    cases nt
                  · rw [kk t o e z] at nt
                    cases nt
              refine fun H6 k6 => dpAll_snoc (nw5 H6 fun c o e n0 nD => k6 c o ?_ n0 nD) ?_
              · have : c ≠ t := fun z => by rw [z, nt] at e; cases e
                rw [upd_ne nD, upd_ne this]
                exact e
              · have h := k6 t (.tup [.str (S w), .int (1 + ((l ++ g).count 10 : Nat)), .int (((l ++ g).length : Int) - (((l ++ g).length : Int) - tl (l ++ g) - 1 + 1) + 1)]) (by rw [upd_ne hta, upd_same]) kn hta
                refine .tup (.inl (.inl h)) (.cons (.str _) (.cons (.int _) (.cons ?_ .nil)))
                · rw [show (((l ++ g).length : Int) - (((l ++ g).length : Int) - tl (l ++ g) - 1 + 1) + 1) = ((tl (l ++ g) + 1 : Nat) : Int) by omega]
                  exact .int _
            have kd : Kp p H (upd (upd H5 t (.tup [.str (S w), .int (1 + ((l ++ g).count 10 : Nat)), .int (((l ++ g).length : Int) - (((l ++ g).length : Int) - tl (l ++ g) - 1 + 1) + 1)])) a (.lst (vs ++ [.ref t]))) := fun c o e n => by
              rw [upd_ne (ne_of_none e na0)]
              exact same_upd nt _ _ (kk c o e n)
            refine ⟨_, rfl, l ++ g ++ w, ts ++ [(w, 1 + (l ++ g).count 10, tl (l ++ g) + 1)], wb, vs ++ [.ref t], _, _, _, _, _, rfl, kd, hdn (hdk (same_upd nt) hd5), upd_same, hnew, ?_, ?_, ?_, fun z => by omega⟩
            · rcases hw with ⟨e, h1, h2, h3⟩ | ⟨e, c, h1, h2⟩
              · rw [e]
                exact td.word gok (fun z => hn z e) h1 h3
              · rw [e, h2]
                exact td.sign gok h1
            · rw [List.length_append, lgl]; omega
            · rw [List.length_append]; simp; omega
          | false =>
            refine iteF ⟨p, false, rfl, hd4, fun H5 g k5 hd5 gok' hn' => ?_⟩
            have gok := gok'.1
            have glen := gok'.2
            have hn : false = true → wb = true → g ≠ [] := fun z => by cases z
            have ha5 := k5 a _ ha4 (Ne.symm nap)
            have nw5 := NewAll.kp nw4 k5 hp0
            have kk := (k3.trans k4).trans k5
            refine ⟨_, rfl, _, rfl, _, _, rfl, rfl, by rw [S_len, S_len]; exact szL (by omega), ?_⟩
            rw [S_add]
            have lgl : (l ++ g).length = l.length + g.length := List.length_append
            have e1 : Txt.count (S (l ++ g)) (PySem.Str.ofString "\n") = ((l ++ g).count 10 : Nat) := count_S _
            have e2 : Txt.rfind (S (l ++ g)) (PySem.Str.ofString "\n") = ((l ++ g).length : Int) - tl (l ++ g) - 1 := rfind_S _
            refine ⟨_, rfl, .inl ⟨rfl, _, .inl (.inl ha5)⟩, _, rfl, _, rfl, rfl, _, _, rfl, rfl, _, _, rfl, rfl, ?_⟩
            refine ⟨_, rfl, S (l ++ g), rfl, szL (by rw [S_len]; omega), _, rfl, rfl, _, _, rfl, rfl, _, _, rfl, rfl, _, _, rfl, rfl, _, _, rfl, rfl, by show 3 ≤ sizeLine; decide, fun t nt => ?_⟩
            have hta : t ≠ a := fun z => by rw [z, ha5] at nt; cases nt
            refine ⟨a, vs, _, rfl, rfl, by rw [upd_ne (Ne.symm hta)]; exact ha5, szl (by omega), ?_⟩
            refine ⟨_, rfl, _, rfl, _, _, rfl, rfl, by rw [S_len, S_len]; exact szL (by omega), ?_⟩
            rw [S_add, e1, e2, S_len]
            have hnew : NewAll K H a (upd (upd H5 t (.tup [.str (S w), .int (1 + ((l ++ g).count 10 : Nat)), .int (((l ++ g).length : Int) - (((l ++ g).length : Int) - tl (l ++ g) - 1 + 1) + 1)])) a (.lst (vs ++ [.ref t]))) (vs ++ [.ref t]) ((ts ++ [(w, 1 + (l ++ g).count 10, tl (l ++ g) + 1)]).map tokD) := by
              rw [List.map_append]
              have kn : H t = none := by
                cases e : H t with
                | none => rfl
                | some o =>
                  by_cases z : t = p
                  · obtain ⟨_, y, _⟩ := hd5
                    rw [z, y] at nt
                    cases nt
                  · rw [kk t o e z] at nt
                    cases nt
              refine fun H6 k6 => dpAll_snoc (nw5 H6 fun c o e n0 nD => k6 c o ?_ n0 nD) ?_
              · have : c ≠ t := fun z => by rw [z, nt] at e; cases e
                rw [upd_ne nD, upd_ne this]
                exact e
              · have h := k6 t (.tup [.str (S w), .int (1 + ((l ++ g).count 10 : Nat)), .int (((l ++ g).length : Int) - (((l ++ g).length : Int) - tl (l ++ g) - 1 + 1) + 1)]) (by rw [upd_ne hta, upd_same]) kn hta
                refine .tup (.inl (.inl h)) (.cons (.str _) (.cons (.int _) (.cons ?_ .nil)))
                · rw [show (((l ++ g).length : Int) - (((l ++ g).length : Int) - tl (l ++ g) - 1 + 1) + 1) = ((tl (l ++ g) + 1 : Nat) : Int) by omega]
                  exact .int _
            have kd : Kp p H (upd (upd H5 t (.tup [.str (S w), .int (1 + ((l ++ g).count 10 : Nat)), .int (((l ++ g).length : Int) - (((l ++ g).length : Int) - tl (l ++ g) - 1 + 1) + 1)])) a (.lst (vs ++ [.ref t]))) := fun c o e n => by
              rw [upd_ne (ne_of_none e na0)]
              exact same_upd nt _ _ (kk c o e n)
            refine ⟨_, rfl, l ++ g ++ w, ts ++ [(w, 1 + (l ++ g).count 10, tl (l ++ g) + 1)], wb, vs ++ [.ref t], _, _, _, _, _, rfl, kd, hdn (hdk (same_upd nt) hd5), upd_same, hnew, ?_, ?_, ?_, fun z => by omega⟩
            · rcases hw with ⟨e, h1, h2, h3⟩ | ⟨e, c, h1, h2⟩
              · rw [e]
                exact td.word gok (fun z => hn z e) h1 h3
              · rw [e, h2]
                exact td.sign gok h1
            · rw [List.length_append, lgl]; omega
            · rw [List.length_append]; simp; omega
        · have hb := hb0 (by have := of_decide_eq_false (p := ((0 : Int) + (i : Nat) > 0)) (by simpa using e); omega)
          obtain ⟨g, hgd⟩ : ∃ g : List Nat, g = [] := ⟨_, rfl⟩
          have gok : ∀ c ∈ g, c = 32 ∨ c = 10 := by rw [hgd]; simp
          have glen : g.length ≤ 4 := by rw [hgd]; simp
          have hn : b = true → wb = true → g ≠ [] := fun z => by rw [hb] at z; cases z
          obtain ⟨H5, h5⟩ : ∃ H5, H5 = H4 := ⟨_, rfl⟩
          have hd5 : Deck H5 p := by rw [h5]; exact hd4
          have ha5 : H5 a = some (.lst vs) := by rw [h5]; exact ha4
          have nw5 : NewAll K H a H5 vs (ts.map tokD) := by rw [h5]; exact nw4
          have kk : Kp p H H5 := by rw [h5]; exact k3.trans k4
          rw [← h5]
          show tSeq _ _ _ (List.set _ _ (some (V.str (S []))) ) _
          rw [← hgd]
          refine ⟨_, rfl, _, rfl, _, _, rfl, rfl, by rw [S_len, S_len]; exact szL (by omega), ?_⟩
          rw [S_add]
          have lgl : (l ++ g).length = l.length + g.length := List.length_append
          have e1 : Txt.count (S (l ++ g)) (PySem.Str.ofString "\n") = ((l ++ g).count 10 : Nat) := count_S _
          have e2 : Txt.rfind (S (l ++ g)) (PySem.Str.ofString "\n") = ((l ++ g).length : Int) - tl (l ++ g) - 1 := rfind_S _
          refine ⟨_, rfl, .inl ⟨rfl, _, .inl (.inl ha5)⟩, _, rfl, _, rfl, rfl, _, _, rfl, rfl, _, _, rfl, rfl, ?_⟩
          refine ⟨_, rfl, S (l ++ g), rfl, szL (by rw [S_len]; omega), _, rfl, rfl, _, _, rfl, rfl, _, _, rfl, rfl, _, _, rfl, rfl, _, _, rfl, rfl, by show 3 ≤ sizeLine; decide, fun t nt => ?_⟩
          have hta : t ≠ a := fun z => by rw [z, ha5] at nt; cases nt
          refine ⟨a, vs, _, rfl, rfl, by rw [upd_ne (Ne.symm hta)]; exact ha5, szl (by omega), ?_⟩
          refine ⟨_, rfl, _, rfl, _, _, rfl, rfl, by rw [S_len, S_len]; exact szL (by omega), ?_⟩
          rw [S_add, e1, e2, S_len]
          have hnew : NewAll K H a (upd (upd H5 t (.tup [.str (S w), .int (1 + ((l ++ g).count 10 : Nat)), .int (((l ++ g).length : Int) - (((l ++ g).length : Int) - tl (l ++ g) - 1 + 1) + 1)])) a (.lst (vs ++ [.ref t]))) (vs ++ [.ref t]) ((ts ++ [(w, 1 + (l ++ g).count 10, tl (l ++ g) + 1)]).map tokD) := by
            rw [List.map_append]
            have kn : H t = none := by
              cases e : H t with
              | none => rfl
              | some o =>
                by_cases z : t = p
                · obtain ⟨_, y, _⟩ := hd5
                  rw [z, y] at nt
                  cases nt
                · rw [kk t o e z] at nt
                  cases nt
            refine fun H6 k6 => dpAll_snoc (nw5 H6 fun c o e n0 nD => k6 c o ?_ n0 nD) ?_
            · have : c ≠ t := fun z => by rw [z, nt] at e; cases e
              rw [upd_ne nD, upd_ne this]
              exact e
            · have h := k6 t (.tup [.str (S w), .int (1 + ((l ++ g).count 10 : Nat)), .int (((l ++ g).length : Int) - (((l ++ g).length : Int) - tl (l ++ g) - 1 + 1) + 1)]) (by rw [upd_ne hta, upd_same]) kn hta
              refine .tup (.inl (.inl h)) (.cons (.str _) (.cons (.int _) (.cons ?_ .nil)))
              · rw [show (((l ++ g).length : Int) - (((l ++ g).length : Int) - tl (l ++ g) - 1 + 1) + 1) = ((tl (l ++ g) + 1 : Nat) : Int) by omega]
                exact .int _
          have kd : Kp p H (upd (upd H5 t (.tup [.str (S w), .int (1 + ((l ++ g).count 10 : Nat)), .int (((l ++ g).length : Int) - (((l ++ g).length : Int) - tl (l ++ g) - 1 + 1) + 1)])) a (.lst (vs ++ [.ref t]))) := fun c o e n => by
            rw [upd_ne (ne_of_none e na0)]
            exact same_upd nt _ _ (kk c o e n)
          refine ⟨_, rfl, l ++ g ++ w, ts ++ [(w, 1 + (l ++ g).count 10, tl (l ++ g) + 1)], wb, vs ++ [.ref t], _, _, _, _, _, rfl, kd, hdn (hdk (same_upd nt) hd5), upd_same, hnew, ?_, ?_, ?_, fun z => by omega⟩
          · rcases hw with ⟨e, h1, h2, h3⟩ | ⟨e, c, h1, h2⟩
            · rw [e]
              exact td.word gok (fun z => hn z e) h1 h3
            · rw [e, h2]
              exact td.sign gok h1
          · rw [List.length_append, lgl]; omega
          · rw [List.length_append]; simp; omega
    · rintro σ H3 ⟨l, ts, b, vs, y4, y5, y6, y7, y8, rfl, k3, hd3, ha3, nw3, td, hl, hts, hb0⟩
      have hn : n.toNat ≤ 11 := by omega
      have hn19 : n.toNat * 19 ≤ 209 := by omega
      refine ⟨_, rfl, _, rfl, p, false, rfl, hd3, fun H4 g k4 hd4 gok _ => ?_⟩
      obtain ⟨hG, hT⟩ := td.fin gok.1
      have hgl := gok.2
      refine ⟨_, _, rfl, rfl, by rw [S_len, S_len]; exact szL (by omega), _, rfl, by show 2 ≤ sizeLine; decide, fun t nt => ?_⟩
      have st := same_upd (o := HO.tup [V.str (S l ++ S g), V.ref a]) nt
      have ha4 := k4 a _ ha3 (Ne.symm nap)
      refine q _ t a vs (l ++ g) ((k3.trans k4).trans (Kp.of st)) (hdk st hd4) ?_ (st _ _ ha4) ?_ hG (by rw [List.length_append]; omega)
      · rw [upd_same, S_add]
      · rw [hT]
        exact dpAll_mono st _ _ ((NewAll.kp nw3 k4 hp0) H4 fun _ _ e _ _ => e)
end
end K33
set_option Elab.async false
set_option linter.all false
set_option maxRecDepth 100000
set_option maxHeartbeats 4000000
namespace K33
open PySem PySem.Spec PyProof.Rows L2 Tw Tk
section
variable {P : Program} {w : World} {K : PySem.W.Frag} {mg : Str → Option Value} {base : Heap} {CT CI CL : Addr}
/-! ### _law_refusal -/
def spRefusal (K : PySem.W.Frag) : Sp := fun vs H Q _ => ∃ (l : List Nat), vs = [.str (S l)] ∧ l.length ≤ 10000 ∧ ((∀ c ∈ l, Good c) → ∀ H', Same H H' → Q .non H') ∧
  (∀ k c, l[k]? = some c → ¬ Good c → (∀ d ∈ l.take k, Good d) → ∀ H' p, Same H H' → H p = none → H' p = some (.tup [.int ((1 + (l.take k).count 10 : Nat) : Int), .int ((tl (l.take k) + 1 : Nat) : Int)]) → Q (.ref p) H')
theorem look_line (l : List Nat) (k : Nat) : (placeF l k).lookup ("line" : Str) = some (.int ((1 + (l.take k).count 10 : Nat) : Int)) := by
  unfold placeF
  rw [lookup_put, if_neg (by decide), lookup_put, if_pos rfl]
theorem look_column (l : List Nat) (k : Nat) : (placeF l k).lookup ("column" : Str) = some (.int ((tl (l.take k) + 1 : Nat) : Int)) := by
  unfold placeF
  rw [lookup_put, if_pos rfl]
abbrev s__law_refusal : Stmt := topS 19
theorem sc__law_refusal : FnScope ["text", "error"] ["text"] (defScope s__law_refusal) := ⟨rfl, rfl, rfl, by decide +kernel, rfl, by decide +kernel, by decide +kernel⟩
theorem ok_refusal {f : Addr} {fd : FuncData} (F : Fun K "_law_refusal" "_law_refusal" s__law_refusal f fd) (T : Tx mg) (EX : Ex K mg CT CI CL) (C_tokens : ExS.CalX P w K mg base 4 "tokens" (spToks K CI)) : FnOk P w K mg base CX0 5 f fd ["text"] (spRefusal K) := by
  refine F.ok sc__law_refusal (fun vs H Q E h => ?_) (fun cdv A outer s H vs Q E hr h => ?_)
  · obtain ⟨l, rfl, _⟩ := h
    rfl
  · obtain ⟨l, rfl, hl, q, qe⟩ := h
    refine ⟨_, (pss_cons (ps_try_as (i := 1) rfl rfl sc__law_refusal.nd rfl rfl ⟨rfl, by decide, .inl EX.e_TellError.gC⟩ takes0 (fun W pn xe tk _ => (pss_one (ps_expr (ExS.pe_cX C_tokens hr (by omega) rfl (fun σ => passAt tk σ) (pa_cons (pv 0) pa_nil)))))
      (fun a oe cls d pn hz hf => (pss_one (ps_ret (pe_ifExp (PW.pt (pw_and (pt_val (pe_callB (ExS.call_isX hz hf) rfl T.n_isinstance (by decide +kernel) (pa_cons (pv 1) (pa_cons (ExS.pe_err EX.e_InvalidText rfl) pa_nil)))) (pw_and1 (pt_not (pt_val (pe_callB (ExS.call_isX hz hf) rfl T.n_isinstance (by decide +kernel) (pa_cons (pv 1) (pa_cons (ExS.pe_err EX.e_InvalidLexicon rfl) pa_nil)))))))) (pe_tup (pa_cons (pe_xf EX.e_InvalidText.xf EX.no_InvalidText_line hz hf (pv 1)) (pa_cons (pe_xf EX.e_InvalidText.xf EX.no_InvalidText_column hz hf (pv 1)) pa_nil))) pe_str)))))
    (pss_one (ps_ret pe_non))), ?_⟩
    refine ⟨_, rfl, l, rfl, hl, fun hG H1 a vs s1 na h1 nw => q hG H1 s1, fun k c hk hbad hgood d H1 s1 hd => ?_⟩
    refine ⟨true, EX.e_InvalidText.exm EX.e_TellError, fun _ a na => ?_, fun z => by cases z⟩
    refine ⟨_, rfl, CI, CI, d, _, true, rfl, rfl, rfl, hd, EX.e_InvalidText.ec, EX.ii, _, rfl, iteT ⟨_, rfl, CL, CI, d, _, false, rfl, rfl, rfl, hd, EX.e_InvalidText.ec, EX.il, _, rfl, iteT ?_⟩⟩
    refine ⟨_, rfl, rfl, rfl, d, _, _, rfl, hd, look_line l k, _, rfl, rfl, rfl, d, _, _, rfl, hd, look_column l k, by show 2 ≤ sizeLine; decide, fun p np => ?_⟩
    exact qe k c hk hbad hgood _ p (s1.trans (same_upd np)) (s1.free np) upd_same
end
end K33
set_option Elab.async false
set_option linter.all false
set_option maxRecDepth 100000
set_option maxHeartbeats 4000000
namespace K33
open PySem PySem.Spec PyProof.Rows L2 Tw Tk
section
variable {P : Program} {w : World} {K : PySem.W.Frag} {mg : Str → Option Value} {base : Heap} {CT CI CL : Addr}
/-! ### the law -/
def spLaw (K : PySem.W.Frag) : Sp := fun vs H Q _ => ∃ (a : Addr) (ns : List Int), vs = [.ref a] ∧ SqL K H a (ns.map V.int) ∧ ns.length ≤ 63 ∧ ∀ H', Q (.bl true) H'
/-- what tokens tells, as data -/
def toksD (l : List Nat) : PyData := .list ((toks l).map tokD)
theorem toks_len (l : List Nat) : (toks l).length ≤ l.length := flush_len 1 l
theorem tokD_ok (t : T3) (n : Nat) : okD (n + 1) (tokD t) := ⟨by show 3 ≤ 50000; decide, fun x hx => by
  have : x = .str (S t.1) ∨ x = .int (t.2.1 : Nat) ∨ x = .int (t.2.2 : Nat) := by simpa [tokD] using hx
  rcases this with rfl | rfl | rfl <;> cases n <;> exact True.intro⟩
theorem tokF_ok (t : T3) (n : Nat) : okF (n + 1) (tokD t) := ⟨by show 3 ≤ 50000; decide, fun x hx => by
  have : x = .str (S t.1) ∨ x = .int (t.2.1 : Nat) ∨ x = .int (t.2.2 : Nat) := by simpa [tokD] using hx
  rcases this with rfl | rfl | rfl <;> cases n <;> exact True.intro⟩
theorem toksD_ok {l : List Nat} (h : l.length ≤ 300) : okD 2 (toksD l) := ⟨by have := toks_len l; rw [List.length_map]; omega, fun x hx => by
  obtain ⟨t, _, rfl⟩ := List.mem_map.mp hx
  exact tokD_ok t 0⟩
theorem toksD_shaped (l : List Nat) : SeqAt.shaped (plainD (toksD l)) = true := by
  have hl : ∀ d ∈ (toks l).map tokD, d.canLay0 = true := fun d hd => by
    obtain ⟨t, ht, rfl⟩ := List.mem_map.mp hd
    show (PyData.canLay0 (.str (S t.1)) && true) = true
    rw [str_lay (S t.1) fun c hc => by have := toks_of l t ht c hc; omega]
    rfl
  refine plain_shaped (layAll hl) ?_
  have : PyData.depthAll ((toks l).map tokD) ≤ 1 := depthAll_le fun d hd => by
    obtain ⟨t, ht, rfl⟩ := List.mem_map.mp hd
    exact Nat.le_refl _
  show PyData.depthAll ((toks l).map tokD) + 1 ≤ 60
  omega
theorem toksD_eq (l : List Nat) : PyData.eqv (plainD (toksD l)) (plainD (toksD l)) = true := by
  exact SeqAt.eqv_refl _ (Bool.and_eq_true_iff.mp (show (PyData.canLay0 (plainD (toksD l)) && decide ((plainD (toksD l)).depth ≤ 64)) = true from toksD_shaped l)).1
/-- the two numbers of a place -/
def plD (i j : Nat) : PyData := .tuple [.int i, .int j]
theorem plD_shaped (i j : Nat) : SeqAt.shaped (plD i j) = true := rfl
theorem plD_eq (i j : Nat) : PyData.eqv (plD i j) (plD i j) = true := by
  exact SeqAt.eqv_refl _ rfl
theorem plD_dp {K : PySem.W.Frag} {H : Hp} {p : Addr} {i j : Nat} (h : H p = some (.tup [.int (i : Int), .int (j : Int)])) : Dp K H (.ref p) (plD i j) := .tup (.inl (.inl h)) (.cons (.int _) (.cons (.int _) .nil))
/-- the signs that are put in -/
def badL : List Nat := [65, 51, 59, 9, 45, 39, 90, 95]
theorem bad_not : ∀ c ∈ badL, ¬ Good c := by decide
theorem Deck.same {H H' : Hp} {p : Addr} (h : Deck H p) (s : Same H H') : Deck H' p := let ⟨ds, a, b⟩ := h; ⟨ds, s _ _ a, b⟩
theorem Deck.kp {H H' : Hp} {p d : Addr} (h : Deck H p) (k : Kp d H H') (n : p ≠ d) : Deck H' p := let ⟨ds, a, b⟩ := h; ⟨ds, k _ _ a n, b⟩
theorem Deck.ne {H : Hp} {p d : Addr} (h : Deck H p) (n : H d = none) : p ≠ d := let ⟨_, a, _⟩ := h; ne_of_none a n
abbrev s_law : Stmt := topS 20
theorem sc_law : FnScope ["script", "deck", "turn", "text", "due", "told", "at", "other", "sign", "bent", "later", "first", "k"] ["script"] (defScope s_law) := ⟨rfl, rfl, rfl, by decide +kernel, rfl, by decide +kernel, by decide +kernel⟩
theorem ok_law {f : Addr} {fd : FuncData} (F : Fun K "law" "law" s_law f fd) (T : Tx mg) (EX : Ex K mg CT CI CL) (C__law_deck : C8.Cal P w K mg base 1 "_law_deck" (spDeck K) []) (C__law_take : C8.Cal P w K mg base 1 "_law_take" spTake []) (C__law_plain : C8.Cal P w K mg base 3 "_law_plain" (spPlain K 2) [])
    (C__law_spoil : C8.Cal P w K mg base 3 "_law_spoil" (spSpoil K 2) []) (C__law_drawn : C8.Cal P w K mg base 3 "_law_drawn" (spDrawn K) []) (C__law_place : C8.Cal P w K mg base 1 "_law_place" (spPlace K) []) (C_place_behind : C8.Cal P w K mg base 1 "place_behind" (spBehind K) [])
    (C__law_refusal : C8.Cal P w K mg base 5 "_law_refusal" (spRefusal K) []) (C_tokens : ExS.CalX P w K mg base 4 "tokens" (spToks K CI)) : FnOk P w K mg base CX0 6 f fd ["script"] (spLaw K) := by
  refine F.ok sc_law (fun vs H Q E h => ?_) (fun cdv A outer s H vs Q E hr h => ?_)
  · obtain ⟨a, ns, rfl, _⟩ := h
    rfl
  · obtain ⟨a, ns, rfl, hS, h63, q⟩ := h
    refine ⟨_, (pss_cons (ps_set (i := 1) sc_law.nd rfl (.inl rfl) (C8.pe_c C__law_deck hr (by omega) rfl (pa_cons (pv 0) (pa_cons pe_int (pa_cons pe_int pa_nil)))))
    (pss_cons (ps_for PassesOwn.never rfl (pi_range1 rfl T.n_range (pa_cons pe_int pa_nil)) (pg_name (i := 2) sc_law.nd rfl (.inl rfl))
      (pss_cons (ps_asg (C8.pe_c C__law_drawn hr (by omega) rfl (pa_cons (pv 1) pa_nil)) (pg_tup rfl (pgs_cons (pg_name (i := 3) sc_law.nd rfl (.inl rfl)) (pgs_cons (pg_name (i := 4) sc_law.nd rfl (.inl rfl)) pgs_nil))))
      (pss_cons (ps_set (i := 5) sc_law.nd rfl (.inl rfl) (ExS.pe_cX C_tokens hr (by omega) rfl ExS.pass0S (pa_cons (pv 3) pa_nil)))
      (pss_cons (ps_if (pt_cmpR (op_neD hr.units) (C8.pe_c C__law_plain hr (by omega) rfl (pa_cons (pv 5) pa_nil)) (C8.pe_c C__law_plain hr (by omega) rfl (pa_cons (pv 4) pa_nil)) (nomark _))
        (pss_one (ps_ret pe_bl))
        pss_nil)
      (pss_cons (ps_expr (C8.pe_c C__law_spoil hr (by omega) rfl (pa_cons (pv 5) pa_nil)))
      (C8.pss_cut (ps_if (PW.pt (pw_or (pt_cmpR (op_neD hr.units) (C8.pe_c C__law_plain hr (by omega) rfl (pa_cons (ExS.pe_cX C_tokens hr (by omega) rfl ExS.pass0S (pa_cons (pv 3) pa_nil)) pa_nil)) (C8.pe_c C__law_plain hr (by omega) rfl (pa_cons (pv 4) pa_nil)) (nomark _)) (pw_or1 (pt_cmpR (op_neD hr.units) (C8.pe_c C_place_behind hr (by omega) rfl (pa_cons (pv 3) pa_nil)) (C8.pe_c C__law_place hr (by omega) rfl (pa_cons (pv 3) (pa_cons (pe_callB call_len_str rfl T.n_len (by decide +kernel) (pa_cons (pv 3) pa_nil)) pa_nil))) (nomark _)))))
        (pss_one (ps_ret pe_bl))
        pss_nil)
      (pss_cons (ps_set (i := 6) sc_law.nd rfl (.inl rfl) (C8.pe_c C__law_take hr (by omega) rfl (pa_cons (pv 1) (pa_cons (pe_op op_add (pe_callB call_len_str rfl T.n_len (by decide +kernel) (pa_cons (pv 3) pa_nil)) pe_int) pa_nil))))
      (pss_cons (ps_set (i := 7) sc_law.nd rfl (.inl rfl) (C8.pe_c C__law_take hr (by omega) rfl (pa_cons (pv 1) (pa_cons (pe_op op_add (pe_callB call_len_str rfl T.n_len (by decide +kernel) (pa_cons (pv 3) pa_nil)) pe_int) pa_nil))))
      (pss_cons (ps_set (i := 8) sc_law.nd rfl (.inr rfl) (pe_ix ix_list (pe_lst (pa_cons pe_str (pa_cons pe_str (pa_cons pe_str (pa_cons pe_str (pa_cons pe_str (pa_cons pe_str (pa_cons pe_str (pa_cons pe_str pa_nil))))))))) (C8.pe_c C__law_take hr (by omega) rfl (pa_cons (pv 1) (pa_cons pe_int pa_nil))) (fun _ _ => rfl)))
      (pss_cons (ps_set (i := 9) sc_law.nd rfl (.inl rfl) (pe_op op_add_str (pe_op op_add_str (pe_slice sl_str (pv 3) po_none (po_some (pv 6))) (pv 8)) (pe_slice sl_str (pv 3) (po_some (pv 6)) po_none)))
      (pss_cons (ps_set (i := 10) sc_law.nd rfl (.inr rfl) (pe_op op_add_str (pe_op op_add_str (pe_slice sl_str (pv 9) po_none (po_some (pv 7))) pe_str) (pe_slice sl_str (pv 9) (po_some (pv 7)) po_none)))
      (pss_cons (ps_if (pt_cmpR (op_neD hr.units) (C8.pe_c C__law_refusal hr (by omega) rfl (pa_cons (pv 9) pa_nil)) (C8.pe_c C__law_place hr (by omega) rfl (pa_cons (pv 9) (pa_cons (pv 6) pa_nil))) (nomark _))
        (pss_one (ps_ret pe_bl))
        pss_nil)
      (pss_cons (ps_set (i := 11) sc_law.nd rfl (.inl rfl) (pe_callB (cr_min rfl) rfl T.n_min (by decide +kernel) (pa_cons (pe_lc (own := [("k", 12)]) rfl sc_law.nd (pi_range1 rfl T.n_range (pa_cons (pe_callB call_len_str rfl T.n_len (by decide +kernel) (pa_cons (pv 10) pa_nil)) pa_nil)) (blkOk_by (own := [("k", 12)]) (N := ["script", "deck", "turn", "text", "due", "told", "at", "other", "sign", "bent", "later", "first", "k"]) (sc := defScope s_law) (by decide +kernel)) (fun _ _ _ _ _ => (pg_name (i := 12) sc_law.nd rfl (.inl rfl))) (fun _ _ _ _ _ => (pts_one (pt_cmpR op_in_sign (pe_ix ix_str (pv 10) (pv 12) (fun _ _ => rfl)) (pe_op op_add_str (pv 8) pe_str) (by rfl)))) (fun _ _ _ _ _ => (pv 12))) pa_nil)))
      (pss_one (ps_if (pt_cmpR (op_neD hr.units) (C8.pe_c C__law_refusal hr (by omega) rfl (pa_cons (pv 10) pa_nil)) (C8.pe_c C__law_place hr (by omega) rfl (pa_cons (pv 10) (pa_cons (pv 11) pa_nil))) (nomark _))
        (pss_one (ps_ret pe_bl))
        pss_nil)))))))))))))))
    (pss_one (ps_ret (pe_and (pe_cmpR (op_eqD hr.units) (C8.pe_c C_place_behind hr (by omega) rfl (pa_cons pe_str pa_nil)) (pe_tup (pa_cons pe_int (pa_cons pe_int pa_nil))) (nomark _)) (pe_one (pe_cmpR op_isN (C8.pe_c C__law_refusal hr (by omega) rfl (pa_cons pe_str pa_nil)) pe_non (nomark _)))))))), ?_⟩
    refine ⟨_, rfl, a, ns, 60, 14, rfl, hS, h63, by omega, by omega, by omega, fun H1 p s1 np hd1 => ?_⟩
    refine ⟨3, rfl, by decide, by decide, for_range (lo := 0) (n := 3) (fun i σ H2 => ∃ (y2 y3 y4 y5 y6 y7 y8 y9 y10 y11 y12 : Option V), σ = [some (.ref a), some (.ref p), y2, y3, y4, y5, y6, y7, y8, y9, y10, y11, y12] ∧ Deck H2 p) ?_ ?_ ?_⟩
    · exact ⟨_, _, _, _, _, _, _, _, _, _, _, rfl, hd1⟩
    · rintro i σ H2 hi ⟨y2, y3, y4, y5, y6, y7, y8, y9, y10, y11, y12, rfl, hd2⟩
      -- text, due = _law_drawn(deck)
      refine ⟨_, rfl, p, rfl, hd2, fun H3 t b vs l k3 hd3 ht hb hvs hG hl => ⟨t, _, rfl, .inl (.inl ht), rfl, _, _, rfl, _, _, rfl, rfl, ?_⟩⟩
      have due : Dp K H3 (.ref b) (toksD l) := .lst (.inl (.inl hb)) hvs
      have bad1 : ∀ {k c : Nat}, l[k]? = some c → ¬ Good c → False := fun hk hc => hc (hG _ (List.mem_of_getElem? hk))
      -- told = tokens(text)
      refine ⟨_, rfl, l, rfl, by omega, fun _ H4 c ws s4 nc hc nw => ?_, fun k c hk hc _ _ _ _ _ => (bad1 hk hc).elim⟩
      have wsD : DpAll K H4 ws ((toks l).map tokD) := nw H4 fun _ _ e _ _ => e
      have wl := dpAll_len wsD
      have told : Dp K H4 (.ref c) (toksD l) := .lst (.inl (.inl hc)) wsD
      have tln := toks_len l
      rw [List.length_map] at wl
      have hd4 := hd3.same s4
      have pc : p ≠ c := hd3.ne nc
      -- if _law_plain(told) != _law_plain(due)
      refine ⟨_, rfl, .ref c, toksD l, rfl, told, toksD_ok hl, fun H5 v5 s5 n5 => ⟨_, rfl, .ref b, toksD l, rfl, dp_mono (s4.trans s5) _ _ due, toksD_ok hl, fun H6 v6 s6 n6 => ⟨_, _, dp_mono s6 _ _ n5.dp, n6.dp, toksD_shaped l, toksD_shaped l, _, rfl, ?_⟩⟩⟩
      rw [toksD_eq]
      refine iteF ?_
      -- _law_spoil(told)
      have s46 := s5.trans s6
      refine ⟨_, rfl, .ref c, rfl, .inr ⟨c, ws, _, 1, rfl, rfl, s46 _ _ hc, dpAll_mono s46 _ _ wsD, fun d hd => (by obtain ⟨t, _, rfl⟩ := List.mem_map.mp hd; exact tokF_ok t 0), by omega, fun H7 k7 hc7 => ?_⟩⟩
      have hd7 : Deck H7 p := ((hd4.same s5).same s6).kp k7 pc
      have s37 : Same H3 H7 := fun x o e => k7 x o (s46 _ _ (s4 _ _ e)) (ne_of_none e nc)
      have due7 := dp_mono s37 _ _ due
      refine ⟨fun σ' H' => σ' = [some (.ref a), some (.ref p), some (.int (0 + (i : Nat))), some (.str (S l)), some (.ref b), some (.ref c), y6, y7, y8, y9, y10, y11, y12] ∧ Deck H' p, ?_, ?_⟩
      · refine ⟨_, rfl, l, rfl, by omega, fun _ H8 c2 ws2 s8 nc2 hc2 nw2 => ?_, fun k c hk hc _ _ _ _ _ => (bad1 hk hc).elim⟩
        have told2 : Dp K H8 (.ref c2) (toksD l) := .lst (.inl (.inl hc2)) (nw2 H8 fun _ _ e _ _ => e)
        refine ⟨.ref c2, toksD l, rfl, told2, toksD_ok hl, fun H9 v9 s9 n9 => ⟨_, rfl, .ref b, toksD l, rfl, dp_mono (s8.trans s9) _ _ due7, toksD_ok hl, fun H10 v10 s10 n10 => ⟨_, _, dp_mono s10 _ _ n9.dp, n10.dp, toksD_shaped l, toksD_shaped l, _, rfl, ?_⟩⟩⟩
        rw [toksD_eq]
        refine iteF ?_
        refine ⟨_, rfl, l, rfl, by omega, fun H11 q1 s11 nq1 hq1 => ⟨_, rfl, _, rfl, S l, rfl, szL (by rw [S_len]; omega), l, (S l).length, rfl, by rw [S_len]; exact Nat.le_refl _, by omega, fun H12 q2 s12 nq2 hq2 => ?_⟩⟩
        rw [S_len, List.take_length] at hq2
        refine ⟨plD (1 + l.count 10) (tl l + 1), plD (1 + l.count 10) (tl l + 1), plD_dp (s12 _ _ hq1), plD_dp hq2, plD_shaped _ _, plD_shaped _ _, _, rfl, ?_⟩
        rw [plD_eq]
        exact iteF ⟨rfl, ((((hd7.same s8).same s9).same s10).same s11).same s12⟩
      · rintro σ' H7 ⟨rfl, hd7⟩
        -- at, other
        have zl : (S l).length ≤ sizeLine := szL (by rw [S_len]; omega)
        refine ⟨_, rfl, _, rfl, _, rfl, zl, _, _, rfl, rfl, p, _, rfl, by rw [S_len]; omega, hd7, fun H8 at_ k8 hd8 a0 a1 => ?_⟩
        rw [S_len] at a1
        obtain ⟨n, rfl⟩ : ∃ n : Nat, at_ = (n : Int) := ⟨at_.toNat, by omega⟩
        have hn : n ≤ l.length := by omega
        refine ⟨_, rfl, _, rfl, _, rfl, zl, _, _, rfl, rfl, p, _, rfl, by rw [S_len]; omega, hd8, fun H9 ot k9 hd9 o0 o1 => ?_⟩
        rw [S_len] at o1
        obtain ⟨m, rfl⟩ : ∃ m : Nat, ot = (m : Int) := ⟨ot.toNat, by omega⟩
        have hm : m ≤ l.length := by omega
        -- sign
        refine ⟨by show 8 ≤ sizeLine; decide, fun r nr => ⟨_, rfl, p, 8, rfl, by decide, hd9.same (same_upd nr), fun H10 w k10 hd10 w0 w1 => ?_⟩⟩
        have hbl : badL[w.toNat]? = some (badL[w.toNat]'(by show w.toNat < 8; omega)) := List.getElem?_eq_getElem _
        obtain ⟨c0, hc0⟩ : ∃ c0, c0 = badL[w.toNat]'(by show w.toNat < 8; omega) := ⟨_, rfl⟩
        rw [← hc0] at hbl
        have bad0 : ¬ Good c0 := bad_not c0 (List.mem_of_getElem? hbl)
        have hrr : H10 r = some (.lst (badL.map fun c => V.str (S [c]))) := k10 r _ (upd_same.trans (by rfl)) (Ne.symm (hd9.ne nr))
        refine ⟨r, _, w, V.str (S [c0]), rfl, rfl, .inl (.inl hrr), atI_ofNat w0 (by rw [List.getElem?_map, hbl]; rfl), ?_⟩
        -- bent, later
        refine ⟨_, rfl, _, rfl, _, rfl, S l, rfl, zl, _, rfl, _, _, rfl, rfl, by rw [cut_to, S_len, S_len, List.length_take]; exact szL (by show min n l.length + 1 ≤ 100000; omega), _, rfl, _, rfl, _, rfl, S l, rfl, zl, _, _, rfl, rfl, by rw [cut_to, cut_from, S_add, S_len, S_len, List.length_append, List.length_take, List.length_drop]; exact szL (by show min n l.length + 1 + (l.length - n) ≤ 100000; omega), ?_⟩
        rw [cut_to, cut_from, S_add, S_add]
        obtain ⟨B, hB⟩ : ∃ B, B = l.take n ++ [c0] ++ l.drop n := ⟨_, rfl⟩
        rw [← hB]
        have lB : B.length = l.length + 1 := by rw [hB]; simp; omega
        have zB : (S B).length ≤ sizeLine := szL (by rw [S_len]; omega)
        have fB : First B n := by rw [hB]; exact first_put hG hn bad0
        refine ⟨_, rfl, _, rfl, _, rfl, S B, rfl, zB, _, _, rfl, rfl, by rw [cut_to, S_len, List.length_take]; exact szL (by show min m B.length + 1 ≤ 100000; omega), _, rfl, _, rfl, _, rfl, S B, rfl, zB, _, _, rfl, rfl, ?_, ?_⟩
        · rw [cut_to, cut_from]
          show (S (B.take m) ++ S [57]).length + _ ≤ _
          rw [S_add, S_len, S_len, List.length_append, List.length_take, List.length_drop]
          exact szL (by show min m B.length + 1 + (B.length - m) ≤ 100000; omega)
        rw [cut_to, cut_from, show (PySem.Str.ofString "9") = S [57] from rfl, S_add, S_add]
        obtain ⟨L, hL⟩ : ∃ L, L = B.take m ++ [57] ++ B.drop m := ⟨_, rfl⟩
        rw [← hL]
        have lL : L.length = l.length + 2 := by rw [hL]; simp; omega
        have zL : (S L).length ≤ sizeLine := szL (by rw [S_len]; omega)
        -- _law_refusal(bent) != _law_place(bent, at)
        have hBm : c0 ∈ B := by rw [hB]; simp
        refine ⟨_, rfl, B, rfl, by omega, fun hg => absurd (hg c0 hBm) bad0, fun k x hk hx hgk H11 q1 s11 nq1 hq1 => ?_⟩
        obtain rfl : k = n := first_uniq ⟨⟨x, hk, hx⟩, hgk⟩ fB
        refine ⟨_, rfl, _, rfl, B, k, rfl, by omega, by omega, fun H12 q2 s12 nq2 hq2 => ?_⟩
        refine ⟨plD _ _, plD _ _, plD_dp (s12 _ _ hq1), plD_dp hq2, plD_shaped _ _, plD_shaped _ _, _, rfl, ?_⟩
        rw [plD_eq]
        refine iteF ?_
        have hd12 : Deck H12 p := (hd10.same s11).same s12
        have memL : ∀ x ∈ L, Good x ∨ x = c0 ∨ x = 57 := fun x hx => by
          have memB : ∀ x ∈ B, Good x ∨ x = c0 := fun x hx => by
            rw [hB] at hx
            rcases List.mem_append.mp hx with z | z
            · rcases List.mem_append.mp z with z | z
              · exact .inl (hG x (List.mem_of_mem_take z))
              · exact .inr (List.mem_singleton.mp z)
            · exact .inl (hG x (List.mem_of_mem_drop z))
          rw [hL] at hx
          rcases List.mem_append.mp hx with z | z
          · rcases List.mem_append.mp z with z | z
            · exact (memB x (List.mem_of_mem_take z)).imp id .inl
            · exact .inr (.inr (List.mem_singleton.mp z))
          · exact (memB x (List.mem_of_mem_drop z)).imp id .inl
        have b57 : ¬ Good 57 := by decide
        have L57 : 57 ∈ L := by rw [hL]; simp
        -- first = min([..])
        refine ⟨_, rfl, S L, rfl, zL, _, rfl, by omega, by rw [S_len]; omega, fun D nD => ?_⟩
        rw [S_len, show ((L.length : Int).toNat) = L.length by omega]
        refine lc_range (lo := 0) (n := L.length) (fun i H => ∃ ns : List Int, H D = some (.lst (ns.map V.int)) ∧ ns.length ≤ i ∧ Same H12 H ∧ (∀ j x, j < i → L[j]? = some x → (x = c0 ∨ x = 57) → (j : Int) ∈ ns) ∧ ∀ y ∈ ns, ∃ (j : Nat) (x : Nat), y = (j : Int) ∧ L[j]? = some x ∧ (x = c0 ∨ x = 57)) ?_ ?_ ?_
        · exact ⟨[], upd_same, Nat.le_refl _, same_upd nD, fun j x hj => absurd hj (Nat.not_lt_zero _), by simp⟩
        · rintro i2 H13 hi2 ⟨ns2, hD, hln, s13, h1, h2⟩
          have hx := List.getElem?_eq_getElem hi2
          refine ⟨rfl, _, rfl, _, rfl, S L, _, _, rfl, rfl, zL, atI_ofNat (by omega) (by rw [show (0 + (i2 : Int)).toNat = i2 by omega]; exact hx), _, rfl, _, _, rfl, rfl, by rw [S_len, S_len]; exact szL (by show 2 ≤ 100000; decide), _, _, rfl, rfl, _, rfl, ?_⟩
          rw [S_add]
          refine ite2 (fun e => ?_) (fun e => ?_)
          · have e' : L[i2] ∈ [c0, 57] := of_decide_eq_true e
            have e2 : L[i2] = c0 ∨ L[i2] = 57 := by simpa using e'
            refine ⟨_, rfl, _, hD, by rw [List.length_map]; exact szl (by omega), ns2 ++ [(0 + (i2 : Int))], by rw [upd_same, List.map_append]; rfl, by rw [List.length_append]; simp; omega, same_mut s13 nD, fun j x hj hjx hxx => ?_, fun y hy => ?_⟩
            · by_cases z : j < i2
              · exact List.mem_append_left _ (h1 j x z hjx hxx)
              · have : j = i2 := by omega
                subst this
                simp
            · rcases List.mem_append.mp hy with z | z
              · exact h2 y z
              · exact ⟨i2, _, by rw [List.mem_singleton.mp z]; omega, hx, e2⟩
          · refine ⟨ns2, hD, by omega, s13, fun j x hj hjx hxx => ?_, h2⟩
            by_cases z : j < i2
            · exact h1 j x z hjx hxx
            · have : j = i2 := by omega
              subst this
              rw [hx] at hjx
              exact absurd (decide_eq_true (by rw [Option.some.inj hjx]; show x ∈ [c0, 57]; simpa using hxx)) e
        · rintro H13 ⟨ns2, hD, hln, s13, h1, h2⟩
          have hne : 0 < ns2.length := by
            obtain ⟨j, hj⟩ := List.mem_iff_getElem?.mp L57
            exact List.length_pos_of_mem (h1 j 57 (List.getElem?_eq_some_iff.mp hj).1 hj (.inr rfl))
          refine ⟨D, ns2, rfl, .inl (.inl hD), hne, fun mm hmm hmin => ?_⟩
          obtain ⟨j, x, rfl, hjx, hxx⟩ := h2 mm hmm
          have hjl := (List.getElem?_eq_some_iff.mp hjx).1
          -- _law_refusal(later) != _law_place(later, first)
          refine ⟨_, rfl, L, rfl, by omega, fun hg => absurd (hg 57 L57) b57, fun k2 x2 hk2 hx2 hgk2 H14 q3 s14 nq3 hq3 => ?_⟩
          have ek : k2 = j := by
            have m1 : (k2 : Int) ∈ ns2 := h1 k2 x2 (List.getElem?_eq_some_iff.mp hk2).1 hk2 ((memL x2 (List.mem_of_getElem? hk2)).resolve_left hx2)
            have m2 := hmin _ m1
            by_cases z : j < k2
            · have : Good x := hgk2 x (List.mem_of_getElem? (i := j) (by rw [List.getElem?_take_of_lt z]; exact hjx))
              rcases hxx with rfl | rfl
              · exact absurd this bad0
              · exact absurd this b57
            · omega
          subst ek
          refine ⟨_, rfl, _, rfl, L, k2, rfl, by omega, by omega, fun H15 q4 s15 nq4 hq4 => ?_⟩
          refine ⟨plD _ _, plD _ _, plD_dp (s15 _ _ hq3), plD_dp hq4, plD_shaped _ _, plD_shaped _ _, _, rfl, ?_⟩
          rw [plD_eq]
          exact iteF ⟨_, _, _, _, _, _, _, _, _, _, _, rfl, ((hd12.same s13).same s14).same s15⟩
    · rintro σ H2 ⟨y2, y3, y4, y5, y6, y7, y8, y9, y10, y11, y12, rfl, hd2⟩
      refine ⟨[], rfl, by decide, fun H3 q1 s3 nq1 hq1 => ⟨by show 2 ≤ sizeLine; decide, fun q2 nq2 => ?_⟩⟩
      refine ⟨plD 1 1, plD 1 1, plD_dp (same_upd nq2 _ _ hq1), plD_dp upd_same, plD_shaped _ _, plD_shaped _ _, _, rfl, ?_⟩
      rw [plD_eq]
      refine iteT ⟨[], rfl, by decide, fun _ H4 s4 => ⟨rfl, ?_⟩, fun k x hk => by simp at hk⟩
      exact q _
end
end K33
set_option Elab.async false
set_option linter.all false
set_option maxRecDepth 100000
set_option maxHeartbeats 4000000
namespace K33
open PySem PySem.Spec PyProof.Rows L2 Tw Tk
section
variable {P : Program} {w : World} {K : PySem.W.Frag} {mg : Str → Option Value} {base : Heap} {CT CI CL : Addr}
theorem main {f_run_length f_tokens_of_line f_tokens f_place_behind f__law_deck f__law_take f__law_plain f__law_spoil f__law_gap f__law_drawn f__law_place f__law_refusal f_law : Addr} {d_run_length d_tokens_of_line d_tokens d_place_behind d__law_deck d__law_take d__law_plain d__law_spoil d__law_gap d__law_drawn d__law_place d__law_refusal d_law : FuncData}
    (F_run_length : Fun K "run_length" "run_length" s_run_length f_run_length d_run_length) (b_run_length : Binds K d_run_length ["row", "at"] []) (m_run_length : mg "run_length" = some (.ref f_run_length))
    (F_tokens_of_line : Fun K "tokens_of_line" "tokens_of_line" s_tokens_of_line f_tokens_of_line d_tokens_of_line) (b_tokens_of_line : Binds K d_tokens_of_line ["row", "line"] []) (m_tokens_of_line : mg "tokens_of_line" = some (.ref f_tokens_of_line))
    (F_tokens : Fun K "tokens" "tokens" s_tokens f_tokens d_tokens) (b_tokens : Binds K d_tokens ["text"] []) (m_tokens : mg "tokens" = some (.ref f_tokens))
    (F_place_behind : Fun K "place_behind" "place_behind" s_place_behind f_place_behind d_place_behind) (b_place_behind : Binds K d_place_behind ["text"] []) (m_place_behind : mg "place_behind" = some (.ref f_place_behind))
    (F__law_deck : Fun K "_law_deck" "_law_deck" s__law_deck f__law_deck d__law_deck) (b__law_deck : Binds K d__law_deck ["script", "cells", "each"] []) (m__law_deck : mg "_law_deck" = some (.ref f__law_deck))
    (F__law_take : Fun K "_law_take" "_law_take" s__law_take f__law_take d__law_take) (b__law_take : Binds K d__law_take ["deck", "many"] []) (m__law_take : mg "_law_take" = some (.ref f__law_take))
    (F__law_plain : Fun K "_law_plain" "_law_plain" s__law_plain f__law_plain d__law_plain) (b__law_plain : Binds K d__law_plain ["value"] []) (m__law_plain : mg "_law_plain" = some (.ref f__law_plain))
    (F__law_spoil : Fun K "_law_spoil" "_law_spoil" s__law_spoil f__law_spoil d__law_spoil) (b__law_spoil : Binds K d__law_spoil ["value"] []) (m__law_spoil : mg "_law_spoil" = some (.ref f__law_spoil))
    (F__law_gap : Fun K "_law_gap" "_law_gap" s__law_gap f__law_gap d__law_gap) (b__law_gap : Binds K d__law_gap ["deck", "need"] []) (m__law_gap : mg "_law_gap" = some (.ref f__law_gap))
    (F__law_drawn : Fun K "_law_drawn" "_law_drawn" s__law_drawn f__law_drawn d__law_drawn) (b__law_drawn : Binds K d__law_drawn ["deck"] []) (m__law_drawn : mg "_law_drawn" = some (.ref f__law_drawn))
    (F__law_place : Fun K "_law_place" "_law_place" s__law_place f__law_place d__law_place) (b__law_place : Binds K d__law_place ["text", "at"] []) (m__law_place : mg "_law_place" = some (.ref f__law_place))
    (F__law_refusal : Fun K "_law_refusal" "_law_refusal" s__law_refusal f__law_refusal d__law_refusal) (b__law_refusal : Binds K d__law_refusal ["text"] []) (m__law_refusal : mg "_law_refusal" = some (.ref f__law_refusal))
    (F_law : Fun K "law" "law" s_law f_law d_law)
    (T : Tx mg) (EX : Ex K mg CT CI CL) (M_InvalidText : ExS.MkX P w K mg base 1 "InvalidText" CI okIT fsIT) : FnOk P w K mg base CX0 6 f_law d_law ["script"] (spLaw K) := by
  have C_take : C8.Cal P w K mg base 1 "_law_take" spTake [] := ⟨_, _, _, _, ok_take F__law_take T, m__law_take, F__law_take.kp, b__law_take, .nil⟩
  have C_gap : C8.Cal P w K mg base 2 "_law_gap" (spGap K) [] := ⟨_, _, _, _, ok_gap F__law_gap T C_take, m__law_gap, F__law_gap.kp, b__law_gap, .nil⟩
  have C_run : C8.Cal P w K mg base 1 "run_length" spRun [] := ⟨_, _, _, _, ok_run F_run_length T, m_run_length, F_run_length.kp, b_run_length, .nil⟩
  have C_row : ExS.CalX P w K mg base 3 "tokens_of_line" (spRow K CI) := ⟨_, _, _, ok_row F_tokens_of_line T C_run M_InvalidText, m_tokens_of_line, F_tokens_of_line.kp, b_tokens_of_line⟩
  have C_toks : ExS.CalX P w K mg base 4 "tokens" (spToks K CI) := ⟨_, _, _, ok_toks F_tokens T C_row, m_tokens, F_tokens.kp, b_tokens⟩
  refine ok_law F_law T EX ⟨_, _, _, _, ok_deck F__law_deck T, m__law_deck, F__law_deck.kp, b__law_deck, .nil⟩ C_take ?_ ?_
    ⟨_, _, _, _, ok_drawn F__law_drawn T C_take C_gap, m__law_drawn, F__law_drawn.kp, b__law_drawn, .nil⟩ ⟨_, _, _, _, ok_place F__law_place T, m__law_place, F__law_place.kp, b__law_place, .nil⟩
    ⟨_, _, _, _, ok_behind F_place_behind T, m_place_behind, F_place_behind.kp, b_place_behind, .nil⟩ ⟨_, _, _, _, ok_refusal F__law_refusal T EX C_toks, m__law_refusal, F__law_refusal.kp, b__law_refusal, .nil⟩ C_toks
  · exact ⟨_, _, _, _, ok_plain F__law_plain T (cal_plain F__law_plain T m__law_plain b__law_plain 2), m__law_plain, F__law_plain.kp, b__law_plain, .nil⟩
  · exact ⟨_, _, _, _, ok_spoil F__law_spoil T (cal_spoil F__law_spoil T m__law_spoil b__law_spoil 2), m__law_spoil, F__law_spoil.kp, b__law_spoil, .nil⟩
end
theorem all_mk {l : PySem.W.OpenLaw} {w : World} {K : PySem.W.Frag} {h : Heap} {mg : Str → Option Value} {fa f0 f1 f2 f3 f4 f5 f6 f7 f8 f9 f10 f11 f12 CT CI CL : Addr} (X : K.In h) (G : h.Ns mainGlobals mg) (hfa : mg "law" = some (.ref fa))
    {od0 an0 : Option Addr} {sl0 : Array (Option Value)} {oc0 kV0 dc0 pm0 cd0 ct0 : Value}
    {od1 an1 : Option Addr} {sl1 : Array (Option Value)} {oc1 kV1 dc1 pm1 cd1 ct1 : Value}
    {od2 an2 : Option Addr} {sl2 : Array (Option Value)} {oc2 kV2 dc2 pm2 cd2 ct2 : Value}
    {od3 an3 : Option Addr} {sl3 : Array (Option Value)} {oc3 kV3 dc3 pm3 cd3 ct3 : Value}
    {od4 an4 : Option Addr} {sl4 : Array (Option Value)} {oc4 kV4 dc4 pm4 cd4 ct4 : Value}
    {od5 an5 : Option Addr} {sl5 : Array (Option Value)} {oc5 kV5 dc5 pm5 cd5 ct5 : Value}
    {od6 an6 : Option Addr} {sl6 : Array (Option Value)} {oc6 kV6 dc6 pm6 cd6 ct6 : Value}
    {od7 an7 : Option Addr} {sl7 : Array (Option Value)} {oc7 kV7 dc7 pm7 cd7 ct7 : Value}
    {od8 an8 : Option Addr} {sl8 : Array (Option Value)} {oc8 kV8 dc8 pm8 cd8 ct8 : Value}
    {od9 an9 : Option Addr} {sl9 : Array (Option Value)} {oc9 kV9 dc9 pm9 cd9 ct9 : Value}
    {od10 an10 : Option Addr} {sl10 : Array (Option Value)} {oc10 kV10 dc10 pm10 cd10 ct10 : Value}
    {od11 an11 : Option Addr} {sl11 : Array (Option Value)} {oc11 kV11 dc11 pm11 cd11 ct11 : Value}
    {od12 an12 : Option Addr} {sl12 : Array (Option Value)} {oc12 kV12 dc12 pm12 cd12 ct12 : Value}
    (a0 : PySem.W.nsIn K mainGlobals "run_length" = some (some (.ref f0)))
    (l0 : K.lookup f0 = some ⟨oc0, od0, .func (PySem.W.fnOf "run_length" "run_length" (defArgs s_run_length) (defBody s_run_length) (defScope s_run_length) .none kV0 dc0 pm0 an0 cd0 ct0), sl0⟩)
    (c0 : PySem.W.codeIn K cd0 "run_length" = true)
    (k0 : PySem.W.keepIn K (.ref f0) = true)
    (a1 : PySem.W.nsIn K mainGlobals "tokens_of_line" = some (some (.ref f1)))
    (l1 : K.lookup f1 = some ⟨oc1, od1, .func (PySem.W.fnOf "tokens_of_line" "tokens_of_line" (defArgs s_tokens_of_line) (defBody s_tokens_of_line) (defScope s_tokens_of_line) .none kV1 dc1 pm1 an1 cd1 ct1), sl1⟩)
    (c1 : PySem.W.codeIn K cd1 "tokens_of_line" = true)
    (k1 : PySem.W.keepIn K (.ref f1) = true)
    (a2 : PySem.W.nsIn K mainGlobals "tokens" = some (some (.ref f2)))
    (l2 : K.lookup f2 = some ⟨oc2, od2, .func (PySem.W.fnOf "tokens" "tokens" (defArgs s_tokens) (defBody s_tokens) (defScope s_tokens) .none kV2 dc2 pm2 an2 cd2 ct2), sl2⟩)
    (c2 : PySem.W.codeIn K cd2 "tokens" = true)
    (k2 : PySem.W.keepIn K (.ref f2) = true)
    (a3 : PySem.W.nsIn K mainGlobals "place_behind" = some (some (.ref f3)))
    (l3 : K.lookup f3 = some ⟨oc3, od3, .func (PySem.W.fnOf "place_behind" "place_behind" (defArgs s_place_behind) (defBody s_place_behind) (defScope s_place_behind) .none kV3 dc3 pm3 an3 cd3 ct3), sl3⟩)
    (c3 : PySem.W.codeIn K cd3 "place_behind" = true)
    (k3 : PySem.W.keepIn K (.ref f3) = true)
    (a4 : PySem.W.nsIn K mainGlobals "_law_deck" = some (some (.ref f4)))
    (l4 : K.lookup f4 = some ⟨oc4, od4, .func (PySem.W.fnOf "_law_deck" "_law_deck" (defArgs s__law_deck) (defBody s__law_deck) (defScope s__law_deck) .none kV4 dc4 pm4 an4 cd4 ct4), sl4⟩)
    (c4 : PySem.W.codeIn K cd4 "_law_deck" = true)
    (k4 : PySem.W.keepIn K (.ref f4) = true)
    (a5 : PySem.W.nsIn K mainGlobals "_law_take" = some (some (.ref f5)))
    (l5 : K.lookup f5 = some ⟨oc5, od5, .func (PySem.W.fnOf "_law_take" "_law_take" (defArgs s__law_take) (defBody s__law_take) (defScope s__law_take) .none kV5 dc5 pm5 an5 cd5 ct5), sl5⟩)
    (c5 : PySem.W.codeIn K cd5 "_law_take" = true)
    (k5 : PySem.W.keepIn K (.ref f5) = true)
    (a6 : PySem.W.nsIn K mainGlobals "_law_plain" = some (some (.ref f6)))
    (l6 : K.lookup f6 = some ⟨oc6, od6, .func (PySem.W.fnOf "_law_plain" "_law_plain" (defArgs s__law_plain) (defBody s__law_plain) (defScope s__law_plain) .none kV6 dc6 pm6 an6 cd6 ct6), sl6⟩)
    (c6 : PySem.W.codeIn K cd6 "_law_plain" = true)
    (k6 : PySem.W.keepIn K (.ref f6) = true)
    (a7 : PySem.W.nsIn K mainGlobals "_law_spoil" = some (some (.ref f7)))
    (l7 : K.lookup f7 = some ⟨oc7, od7, .func (PySem.W.fnOf "_law_spoil" "_law_spoil" (defArgs s__law_spoil) (defBody s__law_spoil) (defScope s__law_spoil) .none kV7 dc7 pm7 an7 cd7 ct7), sl7⟩)
    (c7 : PySem.W.codeIn K cd7 "_law_spoil" = true)
    (k7 : PySem.W.keepIn K (.ref f7) = true)
    (a8 : PySem.W.nsIn K mainGlobals "_law_gap" = some (some (.ref f8)))
    (l8 : K.lookup f8 = some ⟨oc8, od8, .func (PySem.W.fnOf "_law_gap" "_law_gap" (defArgs s__law_gap) (defBody s__law_gap) (defScope s__law_gap) .none kV8 dc8 pm8 an8 cd8 ct8), sl8⟩)
    (c8 : PySem.W.codeIn K cd8 "_law_gap" = true)
    (k8 : PySem.W.keepIn K (.ref f8) = true)
    (a9 : PySem.W.nsIn K mainGlobals "_law_drawn" = some (some (.ref f9)))
    (l9 : K.lookup f9 = some ⟨oc9, od9, .func (PySem.W.fnOf "_law_drawn" "_law_drawn" (defArgs s__law_drawn) (defBody s__law_drawn) (defScope s__law_drawn) .none kV9 dc9 pm9 an9 cd9 ct9), sl9⟩)
    (c9 : PySem.W.codeIn K cd9 "_law_drawn" = true)
    (k9 : PySem.W.keepIn K (.ref f9) = true)
    (a10 : PySem.W.nsIn K mainGlobals "_law_place" = some (some (.ref f10)))
    (l10 : K.lookup f10 = some ⟨oc10, od10, .func (PySem.W.fnOf "_law_place" "_law_place" (defArgs s__law_place) (defBody s__law_place) (defScope s__law_place) .none kV10 dc10 pm10 an10 cd10 ct10), sl10⟩)
    (c10 : PySem.W.codeIn K cd10 "_law_place" = true)
    (k10 : PySem.W.keepIn K (.ref f10) = true)
    (a11 : PySem.W.nsIn K mainGlobals "_law_refusal" = some (some (.ref f11)))
    (l11 : K.lookup f11 = some ⟨oc11, od11, .func (PySem.W.fnOf "_law_refusal" "_law_refusal" (defArgs s__law_refusal) (defBody s__law_refusal) (defScope s__law_refusal) .none kV11 dc11 pm11 an11 cd11 ct11), sl11⟩)
    (c11 : PySem.W.codeIn K cd11 "_law_refusal" = true)
    (k11 : PySem.W.keepIn K (.ref f11) = true)
    (a12 : PySem.W.nsIn K mainGlobals "law" = some (some (.ref f12)))
    (l12 : K.lookup f12 = some ⟨oc12, od12, .func (PySem.W.fnOf "law" "law" (defArgs s_law) (defBody s_law) (defScope s_law) .none kV12 dc12 pm12 an12 cd12 ct12), sl12⟩)
    (c12 : PySem.W.codeIn K cd12 "law" = true)
    (k12 : PySem.W.keepIn K (.ref f12) = true)
    (z_len : PySem.W.nsIn K mainGlobals "len" = some none)
    (z_range : PySem.W.nsIn K mainGlobals "range" = some none)
    (z_list : PySem.W.nsIn K mainGlobals "list" = some none)
    (z_tuple : PySem.W.nsIn K mainGlobals "tuple" = some none)
    (z_int : PySem.W.nsIn K mainGlobals "int" = some none)
    (z_bool : PySem.W.nsIn K mainGlobals "bool" = some none)
    (z_str : PySem.W.nsIn K mainGlobals "str" = some none)
    (z_enumerate : PySem.W.nsIn K mainGlobals "enumerate" = some none)
    (z_min : PySem.W.nsIn K mainGlobals "min" = some none)
    (z_abs : PySem.W.nsIn K mainGlobals "abs" = some none)
    (z_isinstance : PySem.W.nsIn K mainGlobals "isinstance" = some none)
    {tk_LETTERS : Tok}
    (q_LETTERS : PySem.W.nsIn K mainGlobals "LETTERS" = some (some (.str (S LET) tk_LETTERS)))
    {tk_SIGNS : Tok}
    (q_SIGNS : PySem.W.nsIn K mainGlobals "SIGNS" = some (some (.str (S SGN) tk_SIGNS)))
    (hn : PySem.W.specialIn K (.builtin "object.__class__") "__get__" = some (some (.builtin "getset_descriptor.__get__")))
    (ht : PySem.W.takesIn K (.builtin "object.__class__") = some true)
    {nmCT qnCT : Str} {NCT : Addr} {bsCT : List Value} {snCT : List Str} {subCT : List Value} {abCT : Bool} {coCT : Option Bool} {ddCT : Option Addr} {m0CT m1CT m2CT m3CT m5CT : Option Value}
    (gCT : PySem.W.nsIn K mainGlobals "TellError" = some (some (.ref CT)))
    (xCT : K.lookup CT = some (excClassObj nmCT qnCT CT NCT bsCT [.type "ValueError", .type "Exception", .type "BaseException", .type "object"] true snCT subCT abCT coCT ddCT m0CT m1CT m2CT m3CT m5CT "ValueError.__new__"))
    (saCT : PySem.W.findIn K (.ref CT) "__setattr__" = some (some (.builtin "object.__setattr__")))
    (gaCT : PySem.W.findIn K (.ref CT) "__getattribute__" = some (some (.builtin "BaseException.__getattribute__")))
    (ggCT : PySem.W.findIn K (.ref CT) "__getattr__" = some none)
    (ebCT : PySem.W.subIn K (.ref CT) (.type "BaseException") = some true)
    (tyCT : PySem.W.typeIn K (.ref CT) = some (.type "type"))
    (kpCT : PySem.W.keepIn K (.ref CT) = true)
    (hdCT : PySem.W.hasDictIn K CT = true)
    (hcCT : PySem.W.findIn K (.ref CT) "__class__" = some (some (.builtin "object.__class__")))
    (hmCT : PySem.W.mroIn K CT (.type "object") = some true)
    (teCT : PySem.W.subIn K (.ref CT) (.ref CT) = some true)
    {nmCI qnCI : Str} {NCI : Addr} {bsCI : List Value} {snCI : List Str} {subCI : List Value} {abCI : Bool} {coCI : Option Bool} {ddCI : Option Addr} {m0CI m1CI m2CI m3CI m5CI : Option Value}
    (gCI : PySem.W.nsIn K mainGlobals "InvalidText" = some (some (.ref CI)))
    (xCI : K.lookup CI = some (excClassObj nmCI qnCI CI NCI bsCI (.ref CT :: [.type "ValueError", .type "Exception", .type "BaseException", .type "object"]) true snCI subCI abCI coCI ddCI m0CI m1CI m2CI m3CI m5CI "ValueError.__new__"))
    (saCI : PySem.W.findIn K (.ref CI) "__setattr__" = some (some (.builtin "object.__setattr__")))
    (gaCI : PySem.W.findIn K (.ref CI) "__getattribute__" = some (some (.builtin "BaseException.__getattribute__")))
    (ggCI : PySem.W.findIn K (.ref CI) "__getattr__" = some none)
    (ebCI : PySem.W.subIn K (.ref CI) (.type "BaseException") = some true)
    (tyCI : PySem.W.typeIn K (.ref CI) = some (.type "type"))
    (kpCI : PySem.W.keepIn K (.ref CI) = true)
    (hdCI : PySem.W.hasDictIn K CI = true)
    (hcCI : PySem.W.findIn K (.ref CI) "__class__" = some (some (.builtin "object.__class__")))
    (hmCI : PySem.W.mroIn K CI (.type "object") = some true)
    (teCI : PySem.W.subIn K (.ref CI) (.ref CT) = some true)
    {nmCL qnCL : Str} {NCL : Addr} {bsCL : List Value} {snCL : List Str} {subCL : List Value} {abCL : Bool} {coCL : Option Bool} {ddCL : Option Addr} {m0CL m1CL m2CL m3CL m5CL : Option Value}
    (gCL : PySem.W.nsIn K mainGlobals "InvalidLexicon" = some (some (.ref CL)))
    (xCL : K.lookup CL = some (excClassObj nmCL qnCL CL NCL bsCL (.ref CT :: [.type "ValueError", .type "Exception", .type "BaseException", .type "object"]) true snCL subCL abCL coCL ddCL m0CL m1CL m2CL m3CL m5CL "ValueError.__new__"))
    (saCL : PySem.W.findIn K (.ref CL) "__setattr__" = some (some (.builtin "object.__setattr__")))
    (gaCL : PySem.W.findIn K (.ref CL) "__getattribute__" = some (some (.builtin "BaseException.__getattribute__")))
    (ggCL : PySem.W.findIn K (.ref CL) "__getattr__" = some none)
    (ebCL : PySem.W.subIn K (.ref CL) (.type "BaseException") = some true)
    (tyCL : PySem.W.typeIn K (.ref CL) = some (.type "type"))
    (kpCL : PySem.W.keepIn K (.ref CL) = true)
    (hdCL : PySem.W.hasDictIn K CL = true)
    (hcCL : PySem.W.findIn K (.ref CL) "__class__" = some (some (.builtin "object.__class__")))
    (hmCL : PySem.W.mroIn K CL (.type "object") = some true)
    (teCL : PySem.W.subIn K (.ref CL) (.ref CT) = some true)
    (z_super : PySem.W.nsIn K mainGlobals "super" = some none)
    (tp : PySem.W.nsIn K cStatics "thirdparty.any" = some none)
    (top : (l.prog.main.scope.names.lookup ("super" : Str)).isSome = false)
    {fiCI cdaCI ccCI : Addr} {iodCI ianCI : Option Addr} {islCI : Array (Option Value)} {iocCI idcCI ipmCI ictCI cclCI celCI : Value} {cddCI cedCI : Option Addr} {vsCI : Array Value} {ccsCI cesCI : Array (Option Value)} {fileCI : Str} {tfCI : Tok}
    (icCI : PySem.W.findIn K (.ref CI) "__init__" = some (some (.ref fiCI)))
    (itCI : PySem.W.typeIn K (.ref fiCI) = some (.type "function"))
    (ilCI : K.lookup fiCI = some ⟨iocCI, iodCI, .func (PySem.W.ksFn "__init__" "InvalidText.__init__" (defArgs s_InvalidText___init__) (defBody s_InvalidText___init__) (defScope s_InvalidText___init__) .none .none idcCI ipmCI ianCI (.ref cdaCI) ictCI ccCI), islCI⟩)
    (ioCI : PySem.W.codeIn K (.ref cdaCI) "InvalidText.__init__" = true)
    (ikCI : K.lookup cdaCI = some ⟨cclCI, cddCI, .fields vsCI, ccsCI⟩)
    (ivCI : vsCI[2]? = some (.str fileCI tfCI))
    (iwCI : ((l.prog.main.file : Str) == fileCI) = true)
    (ieCI : K.lookup ccCI = some ⟨celCI, cedCI, .cell (some (.ref CI)), cesCI⟩)
    {cdtCI : ClassData}
    (idCI : PySem.W.clsIn K CI = some cdtCI)
    (isCI : PySem.W.ks_superIn K CI CI "__init__" = some (some (.builtin "ValueError.__init__")))
    (imCI : PySem.W.mroIn K CI (.ref CI) = some true)
    (irCI : PySem.W.subIn K (.ref CI) (.type "ValueError") = some true)
    (noCI_line : PySem.W.findIn K (.ref CI) "line" = some none)
    (noCI_column : PySem.W.findIn K (.ref CI) "column" = some none)
    (kt_ii : PySem.W.subIn K (.ref CI) (.ref CI) = some true)
    (kt_il : PySem.W.subIn K (.ref CI) (.ref CL) = some false)
    (kn_il : CI ≠ CL)
    : ∃ fd : FuncData, (∀ (s : Shared) (v : Value), BindsTo s fd ⟨[v], []⟩ [("script", v)]) ∧ ∀ base : Heap, K.In base → base.Ns mainGlobals mg → FnOk l.prog w K mg base CX0 6 fa fd ["script"] (spLaw K) := by
  have e := hfa.symm.trans (PySem.W.mg_of X G a12)
  cases e
  have T : Tx mg := ⟨PySem.W.mg_none_of X G z_len, PySem.W.mg_none_of X G z_range, PySem.W.mg_none_of X G z_list, PySem.W.mg_none_of X G z_tuple, PySem.W.mg_none_of X G z_int, PySem.W.mg_none_of X G z_bool, PySem.W.mg_none_of X G z_str, PySem.W.mg_none_of X G z_enumerate, PySem.W.mg_none_of X G z_min, PySem.W.mg_none_of X G z_abs, PySem.W.mg_none_of X G z_isinstance, ⟨_, PySem.W.mg_of X G q_LETTERS, ⟨_, rfl⟩⟩, ⟨_, PySem.W.mg_of X G q_SIGNS, ⟨_, rfl⟩⟩⟩
  have OXCT : OexC K CT := ⟨⟨_, _, _, _, _, _, _, _, _, _, _, _, _, _, _, xCT, by first | rfl | decide +kernel⟩, saCT, ebCT, tyCT, kpCT⟩
  have ECT : ExS.ErrC K mg "TellError" CT CT := ⟨PySem.W.mg_of X G gCT, OXCT, ⟨gaCT, ggCT, ebCT, hdCT, hcCT, hn, ht, hmCT⟩, teCT⟩
  have OXCI : OexC K CI := ⟨⟨_, _, _, _, _, _, _, _, _, _, _, _, _, _, _, xCI, by first | rfl | decide +kernel⟩, saCI, ebCI, tyCI, kpCI⟩
  have ECI : ExS.ErrC K mg "InvalidText" CI CT := ⟨PySem.W.mg_of X G gCI, OXCI, ⟨gaCI, ggCI, ebCI, hdCI, hcCI, hn, ht, hmCI⟩, teCI⟩
  have OXCL : OexC K CL := ⟨⟨_, _, _, _, _, _, _, _, _, _, _, _, _, _, _, xCL, by first | rfl | decide +kernel⟩, saCL, ebCL, tyCL, kpCL⟩
  have ECL : ExS.ErrC K mg "InvalidLexicon" CL CT := ⟨PySem.W.mg_of X G gCL, OXCL, ⟨gaCL, ggCL, ebCL, hdCL, hcCL, hn, ht, hmCL⟩, teCL⟩
  have EX : Ex K mg CT CI CL := ⟨ECT, ECI, ECL, noCI_line, noCI_column, ECI.kit ECI kt_ii (fun _ => rfl), ECI.kit ECL kt_il (fun z => absurd z kn_il)⟩
  have F0 := fun_mk (st := s_run_length) l0 c0 k0
  have b0 := F0.binds (ps := ["row", "at"]) fun _ _ _ _ _ _ us hl => match us, hl with | [_, _], _ => rfl
  have F1 := fun_mk (st := s_tokens_of_line) l1 c1 k1
  have b1 := F1.binds (ps := ["row", "line"]) fun _ _ _ _ _ _ us hl => match us, hl with | [_, _], _ => rfl
  have F2 := fun_mk (st := s_tokens) l2 c2 k2
  have b2 := F2.binds (ps := ["text"]) fun _ _ _ _ _ _ us hl => match us, hl with | [_], _ => rfl
  have F3 := fun_mk (st := s_place_behind) l3 c3 k3
  have b3 := F3.binds (ps := ["text"]) fun _ _ _ _ _ _ us hl => match us, hl with | [_], _ => rfl
  have F4 := fun_mk (st := s__law_deck) l4 c4 k4
  have b4 := F4.binds (ps := ["script", "cells", "each"]) fun _ _ _ _ _ _ us hl => match us, hl with | [_, _, _], _ => rfl
  have F5 := fun_mk (st := s__law_take) l5 c5 k5
  have b5 := F5.binds (ps := ["deck", "many"]) fun _ _ _ _ _ _ us hl => match us, hl with | [_, _], _ => rfl
  have F6 := fun_mk (st := s__law_plain) l6 c6 k6
  have b6 := F6.binds (ps := ["value"]) fun _ _ _ _ _ _ us hl => match us, hl with | [_], _ => rfl
  have F7 := fun_mk (st := s__law_spoil) l7 c7 k7
  have b7 := F7.binds (ps := ["value"]) fun _ _ _ _ _ _ us hl => match us, hl with | [_], _ => rfl
  have F8 := fun_mk (st := s__law_gap) l8 c8 k8
  have b8 := F8.binds (ps := ["deck", "need"]) fun _ _ _ _ _ _ us hl => match us, hl with | [_, _], _ => rfl
  have F9 := fun_mk (st := s__law_drawn) l9 c9 k9
  have b9 := F9.binds (ps := ["deck"]) fun _ _ _ _ _ _ us hl => match us, hl with | [_], _ => rfl
  have F10 := fun_mk (st := s__law_place) l10 c10 k10
  have b10 := F10.binds (ps := ["text", "at"]) fun _ _ _ _ _ _ us hl => match us, hl with | [_, _], _ => rfl
  have F11 := fun_mk (st := s__law_refusal) l11 c11 k11
  have b11 := F11.binds (ps := ["text"]) fun _ _ _ _ _ _ us hl => match us, hl with | [_], _ => rfl
  have F12 := fun_mk (st := s_law) l12 c12 k12
  refine ⟨PySem.W.fnOf "law" "law" (defArgs s_law) (defBody s_law) (defScope s_law) .none kV12 dc12 pm12 an12 cd12 ct12, fun s v => .of_eq rfl, fun base _ _ => ?_⟩
  have SMCI : ExS.SupM l.prog K mg CI cdaCI ccCI "InvalidText.__init__" := ⟨ioCI, ⟨_, _, _, _, _, _, ikCI, ivCI, iwCI⟩, ⟨_, _, _, ieCI⟩, ⟨_, idCI⟩, PySem.W.mg_none_of X G z_super, tp, top⟩
  have MCI : ExS.MkX l.prog w K mg base 1 "InvalidText" CI okIT fsIT := ⟨OXCI, PySem.W.mg_of X G gCI, _, _, _, icCI, itCI, ok_init ilCI SMCI ⟨isCI, imCI, irCI⟩ OXCI noCI_line noCI_column T, .all fun us hl => match us, hl with | [_, _, _], _ => rfl⟩
  exact main F0 b0 (PySem.W.mg_of X G a0) F1 b1 (PySem.W.mg_of X G a1) F2 b2 (PySem.W.mg_of X G a2) F3 b3 (PySem.W.mg_of X G a3) F4 b4 (PySem.W.mg_of X G a4) F5 b5 (PySem.W.mg_of X G a5) F6 b6 (PySem.W.mg_of X G a6) F7 b7 (PySem.W.mg_of X G a7) F8 b8 (PySem.W.mg_of X G a8) F9 b9 (PySem.W.mg_of X G a9) F10 b10 (PySem.W.mg_of X G a10) F11 b11 (PySem.W.mg_of X G a11) F12 T EX MCI
end K33
open PySem PySem.W PyProof.Rows
set_option maxRecDepth 100000 in
set_option maxHeartbeats 0 in
theorem PySem.Challenge.cw_tellwork_k33_whole_tokens_and_places_holds : PySem.Challenge.rw_tellwork_k33_whole_tokens_and_places.Holds := by
  w_on; o_law; k_head; (case hw => w_witness2)
  k_fill
  refine L2.walk_of (l := PySem.Challenge.rw_tellwork_k33_whole_tokens_and_places) (n := 63) (k := 6) (x := "script") (CX := fun _ => L2.CX0) (sp := fun w => K33.spLaw _) rfl (by decide) rfl ⟨rfl, by decide, by decide⟩ (fun w h Y => PySem.W.kIn_of Y) ?F (fun _ _ a ns hl _ hS => ⟨a, ns, rfl, hS, hl, fun _ => rfl⟩) (fun _ _ _ _ _ h => h)
  case F =>
    intro w mg fa h KX G hmg
    refine' K33.all_mk (l := PySem.Challenge.rw_tellwork_k33_whole_tokens_and_places) KX G hmg ?a0 ?l0 ?c0 ?k0 ?a1 ?l1 ?c1 ?k1 ?a2 ?l2 ?c2 ?k2 ?a3 ?l3 ?c3 ?k3 ?a4 ?l4 ?c4 ?k4 ?a5 ?l5 ?c5 ?k5 ?a6 ?l6 ?c6 ?k6 ?a7 ?l7 ?c7 ?k7 ?a8 ?l8 ?c8 ?k8 ?a9 ?l9 ?c9 ?k9 ?a10 ?l10 ?c10 ?k10 ?a11 ?l11 ?c11 ?k11 ?a12 ?l12 ?c12 ?k12 ?z_len ?z_range ?z_list ?z_tuple ?z_int ?z_bool ?z_str ?z_enumerate ?z_min ?z_abs ?z_isinstance ?q_LETTERS ?q_SIGNS ?hn ?ht ?gCT ?xCT ?saCT ?gaCT ?ggCT ?ebCT ?tyCT ?kpCT ?hdCT ?hcCT ?hmCT ?teCT ?gCI ?xCI ?saCI ?gaCI ?ggCI ?ebCI ?tyCI ?kpCI ?hdCI ?hcCI ?hmCI ?teCI ?gCL ?xCL ?saCL ?gaCL ?ggCL ?ebCL ?tyCL ?kpCL ?hdCL ?hcCL ?hmCL ?teCL ?z_super ?tp ?top ?icCI ?itCI ?ilCI ?ioCI ?ikCI ?ivCI ?iwCI ?ieCI ?idCI ?isCI ?imCI ?irCI ?noCI_line ?noCI_column ?kt_ii ?kt_il ?kn_il
    (case a0 => k_is)
    (case l0 => k_is)
    (case c0 => k_is)
    (case k0 => k_is)
    (case a1 => k_is)
    (case l1 => k_is)
    (case c1 => k_is)
    (case k1 => k_is)
    (case a2 => k_is)
    (case l2 => k_is)
    (case c2 => k_is)
    (case k2 => k_is)
    (case a3 => k_is)
    (case l3 => k_is)
    (case c3 => k_is)
    (case k3 => k_is)
    (case a4 => k_is)
    (case l4 => k_is)
    (case c4 => k_is)
    (case k4 => k_is)
    (case a5 => k_is)
    (case l5 => k_is)
    (case c5 => k_is)
    (case k5 => k_is)
    (case a6 => k_is)
    (case l6 => k_is)
    (case c6 => k_is)
    (case k6 => k_is)
    (case a7 => k_is)
    (case l7 => k_is)
    (case c7 => k_is)
    (case k7 => k_is)
    (case a8 => k_is)
    (case l8 => k_is)
    (case c8 => k_is)
    (case k8 => k_is)
    (case a9 => k_is)
    (case l9 => k_is)
    (case c9 => k_is)
    (case k9 => k_is)
    (case a10 => k_is)
    (case l10 => k_is)
    (case c10 => k_is)
    (case k10 => k_is)
    (case a11 => k_is)
    (case l11 => k_is)
    (case c11 => k_is)
    (case k11 => k_is)
    (case a12 => k_is)
    (case l12 => k_is)
    (case c12 => k_is)
    (case k12 => k_is)
    (case z_len => k_is)
    (case z_range => k_is)
    (case z_list => k_is)
    (case z_tuple => k_is)
    (case z_int => k_is)
    (case z_bool => k_is)
    (case z_str => k_is)
    (case z_enumerate => k_is)
    (case z_min => k_is)
    (case z_abs => k_is)
    (case z_isinstance => k_is)
    (case q_LETTERS => k_is)
    (case q_SIGNS => k_is)
    (case hn => k_is)
    (case ht => k_is)
    (case gCT => k_is)
    (case xCT => k_is)
    (case saCT => k_is)
    (case gaCT => k_is)
    (case ggCT => k_is)
    (case ebCT => k_is)
    (case tyCT => k_is)
    (case kpCT => k_is)
    (case hdCT => k_is)
    (case hcCT => k_is)
    (case hmCT => k_is)
    (case teCT => first | k_is | rfl)
    (case gCI => k_is)
    (case xCI => k_is)
    (case saCI => k_is)
    (case gaCI => k_is)
    (case ggCI => k_is)
    (case ebCI => k_is)
    (case tyCI => k_is)
    (case kpCI => k_is)
    (case hdCI => k_is)
    (case hcCI => k_is)
    (case hmCI => k_is)
    (case teCI => first | k_is | rfl)
    (case gCL => k_is)
    (case xCL => k_is)
    (case saCL => k_is)
    (case gaCL => k_is)
    (case ggCL => k_is)
    (case ebCL => k_is)
    (case tyCL => k_is)
    (case kpCL => k_is)
    (case hdCL => k_is)
    (case hcCL => k_is)
    (case hmCL => k_is)
    (case teCL => first | k_is | rfl)
    (case z_super => k_is)
    (case tp => k_is)
    (case top => first | rfl | decide +kernel)
    (case icCI => k_is)
    (case itCI => k_is)
    (case ilCI => k_is)
    (case ioCI => k_is)
    (case ikCI => k_is)
    (case ivCI => rfl)
    (case iwCI => first | rfl | decide +kernel)
    (case ieCI => k_is)
    (case idCI => k_is)
    (case isCI => first | ks_is | k_is | kernel_rfl | decide +kernel)
    (case imCI => k_is)
    (case irCI => k_is)
    (case noCI_line => k_is)
    (case noCI_column => k_is)
    (case kt_ii => first | k_is | rfl)
    (case kt_il => first | k_is | rfl)
    (case kn_il => decide)
